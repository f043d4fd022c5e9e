import PyProof.Rows.All
import Wide.All
import OpenK.AllK
import Wide.FinOn
import HandS.ForMost
import HandS.Wide
import HandS.Defaults
import HandS.Ends
import HandS.Zip
import HandS.Walk
import HandS.IsInst
import HandS.TupAny
import HandS.TupMul
import HandS.Conv
import KE.GoesEnum
import HandS.HeadEnd
import HandS.EndBits
import HandS.Head0
import HandS.Head1
import HandS.Head2
import HandS.HeadHook1
import HandS.HeadHook2
import Lean
import KE.KTupSum
import HandS.Style
import KE.GoesEnumKw
import HandS.SortInts
import HandS.SetFor
import HandS.Strs
import HandS.WideBits
import HandS.RevRange
import HandS.Deep
import HandS.NoneIn
import HandS.TupSets
import HandS.RaiseMore
import HandS.FStrTup
import PyProof.ReprText
import PyProof.ReprRoads
import PyProof.FitsInt
import PyProof.StrLawsRepr
import HandS.Dict
import HandS.SetKeys
import HandS.DictTup
import KE.KDictCopyH
import KE.KDictSum
import HandS.More
import HandS.Set
import KE.KStateDown
import PySem.Challenge.RW_panfalls_k38_whole_layers_by_runs
set_option Elab.async false
set_option linter.all false
set_option maxRecDepth 100000
set_option maxHeartbeats 1000000
/-! Promises of defs where no repr is under way. -/
namespace DL
open PySem PySem.Spec PyProof.Rows L2

/-- room, and nothing is being shown -/
structure RoomG (k : Nat) (A : Around) : Prop extends Room k A where
  gd : A.guards = some []
theorem RoomG.mono {j k : Nat} {A : Around} (r : RoomG k A) (le : j ≤ k) : RoomG j A := ⟨r.toRoom.mono le, r.gd⟩
theorem RoomG.deeper {k : Nat} {A : Around} (r : RoomG (k + 1) A) (ev : PySem.Env) : RoomG k (A.deeper ev) := ⟨r.toRoom.deeper ev, r.gd⟩

/-- a def's promise, given only where nothing is being shown -/
structure FnG (pr : Program) (wo : World) (fr : PySem.W.Frag) (mg : Str → Option Value) (ba : Heap) (cx : CXT) (k : Nat) (f : Addr) (fd : FuncData) (ps : List Str) (sp : Sp) : Prop where
  len : ∀ xs H q x, sp xs H q x → xs.length = ps.length
  run : ∀ (A : Around) (ou : List PySem.Env) (s : Shared) (H : Hp) (ar : Args) (us : List Value) (xs : List V) (q : VK) (x : XK), RoomG k A →
    Env0 pr wo fr mg ba A ou s H → BindsTo s fd ar (ps.zip us) → Vals xs us → sp xs H q x → codeAny (model pr wo) A (.call (.ref f) ar) (CR cx ou pr wo H s q x) s
section
variable {pr : Program} {wo : World} {fr : PySem.W.Frag} {mg : Str → Option Value} {ba : Heap} {cx : CXT} {j k : Nat} {f : Addr} {fd : FuncData} {ps : List Str} {sp : Sp}
theorem FnG.mono (g : FnG pr wo fr mg ba cx j f fd ps sp) (le : j ≤ k) : FnG pr wo fr mg ba cx k f fd ps sp :=
  ⟨g.len, fun A ou s H ar us xs q x r => g.run A ou s H ar us xs q x (r.mono le)⟩

/-- a call of such a def -/
theorem run_fnG {X : Cx} {pins : List (Addr × Obj)} {σ : L2.St} {H : Hp} {s : Shared} {q : VK} {x : XK} {us ws : List Value} {kw : List (Str × Value)} {xs : List V} (g : FnG X.prog X.w X.K X.mg X.base cx k f fd ps sp) (r : RoomG k X.A)
    (pa : Passes cx X x) (I : Inv X pins σ H s) (bi : BindsTo s fd ⟨us, kw⟩ (ps.zip ws)) (rv : Vals xs ws) (h : sp xs H q x) : wpAny (model X.prog X.w) X.A (call (.ref f) us kw) (EP X pins σ q) X.xe s := by
  refine wpAny_call (codeAny_mono (g.run X.A X.stack s H ⟨us, kw⟩ ws xs q x r I.env0 bi rv h) fun out s2 z => ?_)
  match out, z with
  | .error e, z => exact pa pins σ H s e s2 I z
  | .ok (.ret u), z => exact I.after z
  | .ok .next, z => exact z.elim
  | .ok .brk, z => exact z.elim
  | .ok .cont, z => exact z.elim

/-- a def by its body -/
theorem fnG_body {N : List Str} {x qual : Str} {params : Arguments} {body : List Stmt} {scope : Scope} {kws : List (Str × V)} (F : FunD fr x qual params body scope [] kws f fd) (sc : FnScope N ps scope) (ln : ∀ xs H q y, sp xs H q y → xs.length = ps.length)
    (hb : ∀ (cd : Value) (A : Around) (ou : List PySem.Env) (s : Shared) (H : Hp) (xs : List V) (q : VK) (y : XK), RoomG k (A.deeper (envOfC qual scope s.heap.objs.size f cd)) → sp xs H q y →
      ∃ t, PSs (cxOf cx pr wo fr mg ba N qual scope f cd A ou s H y) body t ∧ t { nx := fun _ H2 => q .non H2, rt := q } (start N xs) H) : FnG pr wo fr mg ba cx (k + 1) f fd ps sp := by
  obtain ⟨oc, od, dV, kV, doc, pm, an, cd, ct, osl, rfl, lk, hcd, _, _⟩ := F.ex
  refine ⟨ln, fun A ou s H ar us xs q y hr e0 bi rv hsp => ?_⟩
  have hl := ln _ _ _ _ hsp
  have inK : fr.In s.heap := e0.mod.kin.keeps fun b o z => (e0.bs b o z).1
  have nl : s.heap.NoLimit := e0.mod.nolimit.keeps fun b o z => (e0.bs b o z).1
  have kinds : ∀ z ∈ ps.zip us, scope.names.lookup z.1 = some .local ∨ (scope.names.lookup z.1 = some .cell ∧ ((cellsFrom (s.heap.objs.size + 1) scope.names []).lookup z.1).isSome = true) := by
    rintro ⟨nm, v⟩ hz
    rcases sc.par nm (List.of_mem_zip hz).1 with a | a
    · exact .inl a
    · exact .inr ⟨a, PySem.W.cellsFrom_some _ _ _ (.inl a)⟩
  refine codeAny_call_function hr.toRoom.depth (inK _ _ lk) rfl sc.co sc.gen rfl (PySem.W.codeRec_of inK hcd) (bi _ _ _ _ ?_)
  refine wpAny_newFunctionEnv_cells sc.kind kinds fun ev hev s1 xx => ?_
  subst hev
  refine ⟨nl.keeps xx.toInCall.keep, codeAny_func ?_⟩
  obtain ⟨t, ht, hq⟩ := hb cd A ou s H xs q y (hr.deeper _) hsp
  have J : Inv (cxOf cx pr wo fr mg ba N qual scope f cd A ou s H y) [] (start N xs) H s1 := inv_start sc hr.hd e0 hl rv xx
  refine wpAny_mono (ht.run [] s1 (start N xs) H _ J hq) (fun fl s2 hs => ?_) fun e s2 hs => hs
  match fl, hs with
  | .ret u, ⟨v, σ2, H2, J2, r2, q2⟩ => exact ⟨v, H2, J2.os, J2.bare, J2.base, J2.hok, r2, q2⟩
  | .next, ⟨σ2, H2, J2, q2⟩ => exact ⟨V.non, H2, J2.os, J2.bare, J2.base, J2.hok, (rfl : Value.none = Value.none), q2⟩
  | .brk, ⟨_, _, _, z⟩ => exact z.elim
  | .cont, ⟨_, _, _, z⟩ => exact z.elim

/-- the law at the heap behind the top -/
theorem law_callG {fa a : Addr} {x : Str} {s₁ : Shared} {vs : List Value} {ns : List Int} {mb : Str → Option Value}
    (inK : fr.In s₁.heap) (nsg : s₁.heap.Ns mainGlobals mg) (nsb : s₁.heap.Ns builtinsNs mb) (boot : ∀ z : Str, z ≠ "__name__" → mb z = bootBuiltins z) (nolim : s₁.heap.NoLimit) (gens : s₁.gens = #[])
    (scr : s₁.heap.get? a = some { cls := .type "list", data := .seq vs.toArray }) (are : IntsAre vs ns) (few : ns.length ≤ sizeLine) (hr : RoomG k callerA)
    (F : ∀ base : Heap, fr.In base → base.Ns mainGlobals mg → FnG pr wo fr mg base cx k fa fd [x] sp) (bnd : ∀ (s : Shared) (u : Value), BindsTo s fd ⟨[u], []⟩ [(x, u)])
    (hsp : ∀ H : Hp, Only H → SqL fr H a (ns.map V.int) → sp [.ref a] H (fun v _ => v = .bl true) fun _ _ _ => False)
    (hcx : ∀ H e s2, cx [] H s₁ (fun _ _ _ => False) e s2 → False) :
    codeAny (model pr wo) callerA (.call (.ref fa) ⟨[.ref a], []⟩) (fun r s2 => r = .ok (.ret (.bool true)) ∧ OldK s₁.heap s2.heap ∧ s2.os = s₁.os ∧ AllBare s2.gens) s₁ := by
  have same := vals_ints are
  have many := are.length
  have go : ∀ G : Hp, Only G → SqL fr G a (ns.map V.int) → HOk pr wo G s₁.heap → (∀ b, G b ≠ none → b = a) → (G a ≠ none → fr.lookup a = none) →
      codeAny (model pr wo) callerA (.call (.ref fa) ⟨[.ref a], []⟩) (fun r s2 => r = .ok (.ret (.bool true)) ∧ OldK s₁.heap s2.heap ∧ s2.os = s₁.os ∧ AllBare s2.gens) s₁ := by
    intro G only sq hok mine notK
    have seen : ∀ {b : Addr} {o : Obj}, s₁.heap.get? b = some o → G b = none → (hidT s₁.heap G).get? b = some o := fun z n => hidT_get z n
    have noDict : ∀ {b : Addr} {o : Obj} {es : Array DictEntry} {n : Nat}, s₁.heap.get? b = some o → o.data = .dict es n → G b = none := by
      intro b o es n z dz
      by_cases c : G b = none
      · exact c
      · rw [mine b c, scr] at z
        cases z
        cases (show Data.seq vs.toArray _ = Data.dict es n from dz)
    have ns2 : ∀ {b : Addr} {m : Str → Option Value}, s₁.heap.Ns b m → (hidT s₁.heap G).Ns b m := fun ⟨o, es, n, z, dz, rest⟩ => ⟨o, es, n, seen z (noDict z dz), dz, rest⟩
    have inB : fr.In (hidT s₁.heap G) := by
      intro b o z
      refine seen (inK b o z) ?_
      by_cases c : G b = none
      · exact c
      · have hba := mine b c
        subst hba
        rw [notK c] at z
        cases z
    obtain ⟨ml, l1, l2⟩ := nolim
    have md : Mod fr mg (hidT s₁.heap G) := ⟨inB, ns2 nsg, ⟨mb, ns2 nsb, boot⟩, ⟨ml, ns2 l1, l2⟩⟩
    have e0 : Env0 pr wo fr mg (hidT s₁.heap G) callerA [] s₁ G := ⟨rfl, md, fun b o z => of_hidT z, Nat.le_of_eq (hidT_size _ _), trivial, fun b hb => (nomatch (show b ∈ ([] : List Addr) from hb)), hok, .of_eq gens⟩
    refine codeAny_mono ((F _ inB (ns2 nsg)).run callerA [] s₁ G ⟨[.ref a], []⟩ [.ref a] [.ref a] _ _ hr e0 (bnd s₁ (.ref a)) (.cons rfl .nil) (hsp G only sq)) fun out s2 z => ?_
    match out, z with
    | .error e, z => exact (hcx G e s2 z).elim
    | .ok .next, z => exact z.elim
    | .ok .brk, z => exact z.elim
    | .ok .cont, z => exact z.elim
    | .ok (.ret u), ⟨v, G2, os, bare, un, hok2, rv, qv⟩ =>
      have qv2 : v = .bl true := qv
      subst qv2
      cases (show u = Value.bool true from rv)
      refine ⟨rfl, OldK.of_keep fun b o z => ?_, os, bare⟩
      cases c : G b with
      | none => exact un.keep b o z c (fun y => nomatch (show b ∈ ([] : List Addr) from y)) (by simp)
      | some t =>
        rcases only b with y | ⟨ob, ys, y⟩
        · rw [c] at y
          cases y
        · obtain ⟨y1, _⟩ := hok b _ y
          obtain ⟨y2, _⟩ := hok2 b _ (un.frzs b ob _ y)
          rw [z] at y1
          cases y1
          exact y2
  cases held : fr.lookup a with
  | some o =>
    have z := inK a o held
    rw [scr] at z
    cases z
    exact go (fun _ => none) (fun _ => .inl rfl) (.inr ⟨_, vs.toArray, _, held, rfl, rfl, rfl, by rw [List.size_toArray, many]; exact few, by simpa using same⟩) (fun b u y => nomatch (show (none : Option HO) = some u from y)) (fun b y => absurd rfl y) fun y => absurd rfl y
  | none =>
    refine go (fun b => if b = a then some (.frz { cls := .type "list", data := .seq vs.toArray } (.lst (ns.map V.int))) else none) (fun b => ?_) (.inl (.inr ⟨{ cls := .type "list", data := .seq vs.toArray }, if_pos rfl⟩)) (fun b u y => ?_) (fun b y => ?_) fun _ => held
    · by_cases c : b = a
      · exact .inr ⟨_, _, if_pos c⟩
      · exact .inl (if_neg c)
    · by_cases c : b = a
      · cases (if_pos c).symm.trans y
        subst c
        exact ⟨scr, by rw [List.length_map]; exact few, vs, _, same, scr⟩
      · cases (if_neg c).symm.trans y
    · by_cases c : b = a
      · exact c
      · exact absurd (if_neg c) y
end
end DL

/-! The data layer: Python values as trees of data, mutable lists in a small store; readings without a heap. -/
namespace DL
open PySem PySem.Spec PyProof.Rows L2

inductive D where
  | non | bl (b : Bool) | int (i : Int) | str (x : Str) | lst (xs : List D) | klst (xs : List D) | tup (xs : List D) | obj (i : Nat)
  /-- a dict of the store, a frozen one; t: its keys are tuples. Its rows: .tup [key, value] -/
  | dic (t : Bool) (i : Nat) | fdic (t : Bool) (rows : List D)
  /-- a tuple of the module's head -/
  | gtup (xs : List D)

/-- a state of the frozen part and of the addresses of the store's lists -/
structure Wd where
  G : Hp
  as : List Addr
  /-- lists that are being made: nobody else sees them -/
  hid : List (Addr × List V) := []
  /-- which of the store's objects are dicts (keys tuples or not) -/
  dk : Addr → Option Bool := fun _ => none
abbrev Sto := List (List D)
abbrev Env := List (Option D)

/-- a key of a dict -/
def keyD : D → Option Key
  | .int i => some (.inl i)
  | .str x => some (.inr x)
  | _ => none
def keysD : List D → Option (List Key)
  | [] => some []
  | d :: r => match keyD d, keysD r with
    | some k, some ks => some (k :: ks)
    | _, _ => none
def tkeyD : D → Option (List Key)
  | .tup xs => keysD xs
  | _ => none
mutual
def Rep (K : PySem.W.Frag) (w : Wd) : D → V → Prop
  | .non, v => v = .non
  | .bl b, v => v = .bl b
  | .int i, v => v = .int i
  | .str x, v => v = .str x
  | .lst xs, v => ∃ a vs, v = .ref a ∧ w.G a = some (.lst vs) ∧ Reps K w xs vs
  | .klst xs, v => ∃ a vs, v = .ref a ∧ SqL K w.G a vs ∧ Reps K w xs vs
  | .tup xs, v => ∃ a vs, v = .ref a ∧ w.G a = some (.tup vs) ∧ Reps K w xs vs
  | .gtup xs, v => ∃ a vs, v = .ref a ∧ SqT K w.G a vs ∧ Reps K w xs vs
  | .obj i, v => ∃ a, v = .ref a ∧ w.as[i]? = some a ∧ w.dk a = none
  | .dic t i, v => ∃ a, v = .ref a ∧ w.as[i]? = some a ∧ w.dk a = some t
  | .fdic false rows, v => ∃ a kvs, v = .ref a ∧ w.G a = some (.dK kvs) ∧ kvs.length ≤ sizeLine ∧ RowsK K w rows kvs
  | .fdic true rows, v => ∃ a kvs, v = .ref a ∧ w.G a = some (.dT kvs) ∧ kvs.length ≤ sizeLine ∧ RowsT K w rows kvs
def RowsK (K : PySem.W.Frag) (w : Wd) : List D → List (Key × V) → Prop
  | [], kvs => kvs = []
  | .tup [k, d] :: ds, kvs => ∃ y v r, kvs = (y, v) :: r ∧ keyD k = some y ∧ Rep K w d v ∧ RowsK K w ds r
  | _ :: _, _ => False
def RowsT (K : PySem.W.Frag) (w : Wd) : List D → List (List Key × V) → Prop
  | [], kvs => kvs = []
  | .tup [k, d] :: ds, kvs => ∃ y v r, kvs = (y, v) :: r ∧ tkeyD k = some y ∧ Rep K w d v ∧ RowsT K w ds r
  | _ :: _, _ => False
def Reps (K : PySem.W.Frag) (w : Wd) : List D → List V → Prop
  | [], vs => vs = []
  | d :: ds, vs => ∃ v r, vs = v :: r ∧ Rep K w d v ∧ Reps K w ds r
end

structure Pre (w w' : Wd) : Prop where
  as : ∃ m, w'.as = w.as ++ m
  dk : ∀ a ∈ w.as, w'.dk a = w.dk a
theorem Pre.eq {w w' : Wd} (h : w'.as = w.as) (k : w'.dk = w.dk) : Pre w w' := ⟨⟨[], by rw [h]; simp⟩, fun _ _ => by rw [k]⟩
structure Le0 (w w' : Wd) : Prop where
  same : Same w.G w'.G
  pre : Pre w w'
structure Le (w w' : Wd) : Prop extends Le0 w w' where
  hid : w'.hid = w.hid
theorem Le0.refl (w : Wd) : Le0 w w := ⟨Same.refl _, .eq rfl rfl⟩
theorem Le0.trans {w1 w2 w3 : Wd} (a : Le0 w1 w2) (b : Le0 w2 w3) : Le0 w1 w3 := by
  obtain ⟨⟨m, e⟩, p⟩ := a.pre
  obtain ⟨⟨n, f⟩, q⟩ := b.pre
  exact ⟨a.same.trans b.same, ⟨m ++ n, by rw [f, e, List.append_assoc]⟩, fun x hx => (q x (by rw [e]; exact List.mem_append_left _ hx)).trans (p x hx)⟩
theorem Le.refl (w : Wd) : Le w w := ⟨.refl w, rfl⟩
theorem Le.trans {w1 w2 w3 : Wd} (a : Le w1 w2) (b : Le w2 w3) : Le w1 w3 := ⟨a.toLe0.trans b.toLe0, b.hid.trans a.hid⟩
theorem as_get {w w' : Wd} (l : Pre w w') {i : Nat} {a : Addr} (h : w.as[i]? = some a) : w'.as[i]? = some a := by
  obtain ⟨⟨m, e⟩, _⟩ := l
  rw [e, List.getElem?_append_left (List.getElem?_eq_some_iff.mp h).1]
  exact h
theorem seqT_mono {K : PySem.W.Frag} {H H' : Hp} {a : Addr} {xs : List V} (e : Same H H') (h : SqT K H a xs) : SqT K H' a xs := by
  rcases h with (h | ⟨o, h⟩) | h
  · exact .inl (.inl (e _ _ h))
  · exact .inl (.inr ⟨o, e _ _ h⟩)
  · exact .inr h

section
variable {K : PySem.W.Frag} {w w' : Wd}
mutual
theorem Rep.mono' (s : Same w.G w'.G) (l : Pre w w') : ∀ (d : D) (v : V), Rep K w d v → Rep K w' d v
  | .non, _, h => by simpa only [Rep] using h
  | .bl _, _, h => by simpa only [Rep] using h
  | .int _, _, h => by simpa only [Rep] using h
  | .str _, _, h => by simpa only [Rep] using h
  | .lst xs, v, h => by
    simp only [Rep] at h ⊢
    obtain ⟨a, vs, e, q, r⟩ := h
    exact ⟨a, vs, e, s _ _ q, Reps.mono' s l xs vs r⟩
  | .klst xs, v, h => by
    simp only [Rep] at h ⊢
    obtain ⟨a, vs, e, q, r⟩ := h
    exact ⟨a, vs, e, s.seq q, Reps.mono' s l xs vs r⟩
  | .tup xs, v, h => by
    simp only [Rep] at h ⊢
    obtain ⟨a, vs, e, q, r⟩ := h
    exact ⟨a, vs, e, s _ _ q, Reps.mono' s l xs vs r⟩
  | .gtup xs, v, h => by
    simp only [Rep] at h ⊢
    obtain ⟨a, vs, e, q, r⟩ := h
    exact ⟨a, vs, e, seqT_mono s q, Reps.mono' s l xs vs r⟩
  | .obj i, v, h => by
    simp only [Rep] at h ⊢
    obtain ⟨a, e, q, q2⟩ := h
    exact ⟨a, e, as_get l q, (l.dk a (List.mem_of_getElem? q)).trans q2⟩
  | .dic t i, v, h => by
    simp only [Rep] at h ⊢
    obtain ⟨a, e, q, q2⟩ := h
    exact ⟨a, e, as_get l q, (l.dk a (List.mem_of_getElem? q)).trans q2⟩
  | .fdic false rows, v, h => by
    simp only [Rep] at h ⊢
    obtain ⟨a, kvs, e, q, n, r⟩ := h
    exact ⟨a, kvs, e, s _ _ q, n, RowsK.mono' s l rows kvs r⟩
  | .fdic true rows, v, h => by
    simp only [Rep] at h ⊢
    obtain ⟨a, kvs, e, q, n, r⟩ := h
    exact ⟨a, kvs, e, s _ _ q, n, RowsT.mono' s l rows kvs r⟩
theorem RowsK.mono' (s : Same w.G w'.G) (l : Pre w w') : ∀ (ds : List D) (kvs : List (Key × V)), RowsK K w ds kvs → RowsK K w' ds kvs
  | [], _, h => by simpa only [RowsK] using h
  | .tup [k, d] :: ds, kvs, h => by
    simp only [RowsK] at h ⊢
    obtain ⟨y, v, r, e, h1, h2, h3⟩ := h
    exact ⟨y, v, r, e, h1, Rep.mono' s l d v h2, RowsK.mono' s l ds r h3⟩
  | .tup [] :: _, _, h => by simp only [RowsK] at h
  | .tup [_] :: _, _, h => by simp only [RowsK] at h
  | .tup (_ :: _ :: _ :: _) :: _, _, h => by simp only [RowsK] at h
  | .non :: _, _, h => by simp only [RowsK] at h
  | .bl _ :: _, _, h => by simp only [RowsK] at h
  | .int _ :: _, _, h => by simp only [RowsK] at h
  | .str _ :: _, _, h => by simp only [RowsK] at h
  | .lst _ :: _, _, h => by simp only [RowsK] at h
  | .klst _ :: _, _, h => by simp only [RowsK] at h
  | .obj _ :: _, _, h => by simp only [RowsK] at h
  | .dic _ _ :: _, _, h => by simp only [RowsK] at h
  | .fdic _ _ :: _, _, h => by simp only [RowsK] at h
  | .gtup _ :: _, _, h => by simp only [RowsK] at h
theorem RowsT.mono' (s : Same w.G w'.G) (l : Pre w w') : ∀ (ds : List D) (kvs : List (List Key × V)), RowsT K w ds kvs → RowsT K w' ds kvs
  | [], _, h => by simpa only [RowsT] using h
  | .tup [k, d] :: ds, kvs, h => by
    simp only [RowsT] at h ⊢
    obtain ⟨y, v, r, e, h1, h2, h3⟩ := h
    exact ⟨y, v, r, e, h1, Rep.mono' s l d v h2, RowsT.mono' s l ds r h3⟩
  | .tup [] :: _, _, h => by simp only [RowsT] at h
  | .tup [_] :: _, _, h => by simp only [RowsT] at h
  | .tup (_ :: _ :: _ :: _) :: _, _, h => by simp only [RowsT] at h
  | .non :: _, _, h => by simp only [RowsT] at h
  | .bl _ :: _, _, h => by simp only [RowsT] at h
  | .int _ :: _, _, h => by simp only [RowsT] at h
  | .str _ :: _, _, h => by simp only [RowsT] at h
  | .lst _ :: _, _, h => by simp only [RowsT] at h
  | .klst _ :: _, _, h => by simp only [RowsT] at h
  | .obj _ :: _, _, h => by simp only [RowsT] at h
  | .dic _ _ :: _, _, h => by simp only [RowsT] at h
  | .fdic _ _ :: _, _, h => by simp only [RowsT] at h
  | .gtup _ :: _, _, h => by simp only [RowsT] at h
theorem Reps.mono' (s : Same w.G w'.G) (l : Pre w w') : ∀ (ds : List D) (vs : List V), Reps K w ds vs → Reps K w' ds vs
  | [], _, h => by simpa only [Reps] using h
  | d :: ds, vs, h => by
    simp only [Reps] at h ⊢
    obtain ⟨v, r, e, h1, h2⟩ := h
    exact ⟨v, r, e, Rep.mono' s l d v h1, Reps.mono' s l ds r h2⟩
end
theorem Rep.mono (l : Le w w') (d : D) (v : V) (h : Rep K w d v) : Rep K w' d v := Rep.mono' l.same l.pre d v h
theorem Reps.mono (l : Le w w') (ds : List D) (vs : List V) (h : Reps K w ds vs) : Reps K w' ds vs := Reps.mono' l.same l.pre ds vs h
theorem Reps.nil : Reps K w [] [] := by simp only [Reps]
theorem Reps.cons {d : D} {ds : List D} {v : V} {vs : List V} (h : Rep K w d v) (r : Reps K w ds vs) : Reps K w (d :: ds) (v :: vs) := by
  simp only [Reps]
  exact ⟨v, vs, rfl, h, r⟩
theorem Reps.inv {d : D} {ds : List D} {vs : List V} (h : Reps K w (d :: ds) vs) : ∃ v r, vs = v :: r ∧ Rep K w d v ∧ Reps K w ds r := by
  simpa only [Reps] using h
theorem Reps.inv0 {vs : List V} (h : Reps K w [] vs) : vs = [] := by simpa only [Reps] using h
theorem Reps.length : ∀ {ds : List D} {vs : List V}, Reps K w ds vs → vs.length = ds.length
  | [], vs, h => by rw [h.inv0]; rfl
  | d :: ds, vs, h => by
    obtain ⟨v, r, rfl, _, h2⟩ := h.inv
    simp [h2.length]
theorem Reps.get : ∀ {ds : List D} {vs : List V} {i : Nat} {d : D}, Reps K w ds vs → ds[i]? = some d → ∃ v, vs[i]? = some v ∧ Rep K w d v
  | [], _, _, _, _, e => by simp at e
  | d :: ds, vs, 0, _, h, e => by
    obtain ⟨v, r, rfl, h1, _⟩ := h.inv
    simp at e
    subst e
    exact ⟨v, rfl, h1⟩
  | d :: ds, vs, i + 1, x, h, e => by
    obtain ⟨v, r, rfl, _, h2⟩ := h.inv
    obtain ⟨u, e1, e2⟩ := h2.get (i := i) (d := x) (by simpa using e)
    exact ⟨u, by simpa using e1, e2⟩
theorem Reps.getv : ∀ {ds : List D} {vs : List V} {i : Nat} {v : V}, Reps K w ds vs → vs[i]? = some v → ∃ d, ds[i]? = some d ∧ Rep K w d v
  | [], _, _, _, h, e => by rw [h.inv0] at e; simp at e
  | d :: ds, vs, 0, _, h, e => by
    obtain ⟨v, r, rfl, h1, _⟩ := h.inv
    simp at e
    subst e
    exact ⟨d, rfl, h1⟩
  | d :: ds, vs, i + 1, x, h, e => by
    obtain ⟨v, r, rfl, _, h2⟩ := h.inv
    obtain ⟨u, e1, e2⟩ := h2.getv (i := i) (v := x) (by simpa using e)
    exact ⟨u, by simpa using e1, e2⟩
theorem Reps.append : ∀ {ds es : List D} {vs us : List V}, Reps K w ds vs → Reps K w es us → Reps K w (ds ++ es) (vs ++ us)
  | [], _, _, _, h, g => by rw [h.inv0]; exact g
  | d :: ds, es, vs, us, h, g => by
    obtain ⟨v, r, rfl, h1, h2⟩ := h.inv
    exact .cons h1 (h2.append g)
theorem Reps.set : ∀ {ds : List D} {vs : List V} (i : Nat) {d : D} {v : V}, Reps K w ds vs → Rep K w d v → Reps K w (ds.set i d) (vs.set i v)
  | [], _, _, _, _, h, _ => by rw [h.inv0]; exact .nil
  | _ :: _, vs, 0, _, _, h, g => by
    obtain ⟨v, r, rfl, h1, h2⟩ := h.inv
    exact .cons g h2
  | _ :: _, vs, i + 1, _, _, h, g => by
    obtain ⟨v, r, rfl, h1, h2⟩ := h.inv
    exact .cons h1 (h2.set i g)
theorem Reps.take : ∀ {ds : List D} {vs : List V} (n : Nat), Reps K w ds vs → Reps K w (ds.take n) (vs.take n)
  | [], _, n, h => by rw [h.inv0]; simp; exact .nil
  | _ :: _, vs, 0, h => by simp; exact .nil
  | _ :: _, vs, n + 1, h => by
    obtain ⟨v, r, rfl, h1, h2⟩ := h.inv
    exact .cons h1 (h2.take n)
theorem Reps.drop : ∀ {ds : List D} {vs : List V} (n : Nat), Reps K w ds vs → Reps K w (ds.drop n) (vs.drop n)
  | [], _, n, h => by rw [h.inv0]; simp; exact .nil
  | _ :: _, vs, 0, h => h
  | _ :: _, vs, n + 1, h => by
    obtain ⟨v, r, rfl, h1, h2⟩ := h.inv
    exact h2.drop n
theorem Reps.rev {ds : List D} {vs : List V} (h : Reps K w ds vs) : Reps K w ds.reverse vs.reverse := by
  induction ds generalizing vs with
  | nil => rw [h.inv0]; exact .nil
  | cons d ds ih =>
    obtain ⟨v, r, rfl, h1, h2⟩ := h.inv
    rw [List.reverse_cons, List.reverse_cons]
    exact (ih h2).append (.cons h1 .nil)
theorem Reps.rep {ds : List D} {vs : List V} (h : Reps K w ds vs) : ∀ k : Nat, Reps K w (List.replicate k ds).flatten (List.replicate k vs).flatten
  | 0 => .nil
  | k + 1 => by
    rw [List.replicate_succ, List.replicate_succ, List.flatten_cons, List.flatten_cons]
    exact h.append (h.rep k)
theorem Reps.ints : ∀ {ns : List Int} {vs : List V}, Reps K w (ns.map D.int) vs → vs = ns.map V.int
  | [], _, h => h.inv0
  | n :: ns, vs, h => by
    obtain ⟨v, r, rfl, h1, h2⟩ := Reps.inv h
    simp only [Rep] at h1
    rw [h1, h2.ints]
    rfl
theorem Reps.of_ints : ∀ (ns : List Int), Reps K w (ns.map D.int) (ns.map V.int)
  | [] => .nil
  | n :: ns => .cons (by simp only [Rep]) (Reps.of_ints ns)
theorem Reps.bls : ∀ {ns : List Bool} {vs : List V}, Reps K w (ns.map D.bl) vs → vs = ns.map V.bl
  | [], _, h => h.inv0
  | n :: ns, vs, h => by
    obtain ⟨v, r, rfl, h1, h2⟩ := Reps.inv h
    simp only [Rep] at h1
    rw [h1, h2.bls]
    rfl
theorem Reps.strs : ∀ {ns : List Str} {vs : List V}, Reps K w (ns.map D.str) vs → vs = ns.map V.str
  | [], _, h => h.inv0
  | n :: ns, vs, h => by
    obtain ⟨v, r, rfl, h1, h2⟩ := Reps.inv h
    simp only [Rep] at h1
    rw [h1, h2.strs]
    rfl
end

/-! ### the state -/
def SizeOk : HO → Prop
  | .lst xs => xs.length ≤ sizeLine
  | .tup xs => xs.length ≤ sizeLine
  | .frz _ (.lst xs) => xs.length ≤ sizeLine
  | .frz _ (.tup xs) => xs.length ≤ sizeLine
  | _ => True
/-- what an object of the store holds -/
def EntR (K : PySem.W.Frag) (w : Wd) : Option Bool → List D → HO → Prop
  | none, xs, o => ∃ vs, o = .lst vs ∧ vs.length ≤ sizeLine ∧ Reps K w xs vs
  | some false, xs, o => ∃ kvs, o = .dK kvs ∧ kvs.length ≤ sizeLine ∧ RowsK K w xs kvs
  | some true, xs, o => ∃ kvs, o = .dT kvs ∧ kvs.length ≤ sizeLine ∧ RowsT K w xs kvs
theorem EntR.mono' {K : PySem.W.Frag} {w w' : Wd} (s : Same w.G w'.G) (l : Pre w w') {k : Option Bool} {xs : List D} {o : HO} (h : EntR K w k xs o) : EntR K w' k xs o := by
  match k, h with
  | none, ⟨vs, e, n, r⟩ => exact ⟨vs, e, n, Reps.mono' s l _ _ r⟩
  | some false, ⟨vs, e, n, r⟩ => exact ⟨vs, e, n, RowsK.mono' s l _ _ r⟩
  | some true, ⟨vs, e, n, r⟩ => exact ⟨vs, e, n, RowsT.mono' s l _ _ r⟩
theorem EntR.mono {K : PySem.W.Frag} {w w' : Wd} (l : Le w w') {k : Option Bool} {xs : List D} {o : HO} (h : EntR K w k xs o) : EntR K w' k xs o := h.mono' l.same l.pre
structure Wld (K : PySem.W.Frag) (w : Wd) (st : Sto) (H : Hp) : Prop where
  same : Same w.G H
  len : w.as.length = st.length
  nd : w.as.Nodup
  at_ : ∀ (i : Nat) (a : Addr), w.as[i]? = some a → w.G a = none ∧ ∃ (xs : List D) (o : HO), st[i]? = some xs ∧ H a = some o ∧ EntR K w (w.dk a) xs o
  small : ∀ a u, w.G a = some u → SizeOk u
  hidd : ∀ (a : Addr) (vs : List V), (a, vs) ∈ w.hid → w.G a = none ∧ a ∉ w.as ∧ H a = some (.lst vs)
  hnd : (w.hid.map (·.1)).Nodup

section
variable {K : PySem.W.Frag} {w w' : Wd} {st : Sto} {H : Hp}
theorem sq_small {G : Hp} {a : Addr} {vs : List V} (sm : ∀ a u, G a = some u → SizeOk u) (h : SqL K G a vs) : vs.length ≤ sizeLine := by
  rcases h with (h | ⟨o, h⟩) | ⟨o, its, n, _, _, _, _, hz, r⟩
  · exact sm _ _ h
  · exact sm _ _ h
  · have := r.length
    simp only [Array.length_toList] at this
    omega
theorem sqt_small {G : Hp} {a : Addr} {vs : List V} (sm : ∀ a u, G a = some u → SizeOk u) (h : SqT K G a vs) : vs.length ≤ sizeLine := by
  rcases h with (h | ⟨o, h⟩) | ⟨o, its, n, _, _, _, hz, r⟩
  · exact sm _ _ h
  · exact sm _ _ h
  · have := r.length
    simp only [Array.length_toList] at this
    omega
/-- the lists of the store read through -/
def deref (st : Sto) : D → D
  | .obj i => match st[i]? with
    | some xs => .lst xs
    | none => .obj i
  | .klst xs => .lst xs
  | .gtup xs => .tup xs
  | d => d
theorem deref_self {st : Sto} {d e : D} (h : deref st d = e) (n1 : ∀ xs, e ≠ .lst xs) (n2 : ∀ i, e ≠ .obj i) (n3 : ∀ xs, e ≠ .tup xs := by intro _ z; cases z) : d = e := by
  cases d with
  | gtup ys => exact (n3 _ h.symm).elim
  | klst ys => exact (n1 _ h.symm).elim
  | obj i =>
    have h' : (match st[i]? with | some xs => D.lst xs | none => D.obj i) = e := h
    split at h'
    · exact (n1 _ h'.symm).elim
    · exact (n2 _ h'.symm).elim
  | _ => exact h
/-- not for tuples of the module's head -/
def noG (d : D) (p : Prop) : Prop := match d with
  | .gtup _ => False
  | _ => p
theorem noG_of {d : D} {p : Prop} (h : noG d p) : (∀ ys, d ≠ .gtup ys) ∧ p := by
  cases d with
  | gtup _ => exact h.elim
  | _ => exact ⟨fun _ z => by (cases z), h⟩
theorem deref_tup {st : Sto} {d : D} {xs : List D} (h : deref st d = .tup xs) (n : ∀ ys, d ≠ .gtup ys) : d = .tup xs := by
  cases d with
  | gtup ys => exact (n _ rfl).elim
  | obj i =>
    have h' : (match st[i]? with | some xs => D.lst xs | none => D.obj i) = .tup xs := h
    split at h' <;> cases h'
  | klst ys => cases h
  | _ => exact h
theorem deref_tups {st : Sto} {d : D} {xs : List D} (h : deref st d = .tup xs) (st' : Sto) : deref st' d = .tup xs := by
  cases d with
  | gtup ys => exact h
  | obj i =>
    have h' : (match st[i]? with | some xs => D.lst xs | none => D.obj i) = .tup xs := h
    split at h' <;> cases h'
  | klst ys => cases h
  | _ => exact h
theorem rep_lst {d : D} {v : V} {xs : List D} (W : Wld K w st H) (R : Rep K w d v) (e : deref st d = .lst xs) :
    ∃ a vs, v = .ref a ∧ SqL K H a vs ∧ Reps K w xs vs ∧ vs.length ≤ sizeLine := by
  cases d with
  | lst ys =>
    cases e
    simp only [Rep] at R
    obtain ⟨a, vs, e1, q, r⟩ := R
    exact ⟨a, vs, e1, .of (W.same _ _ q), r, W.small _ _ q⟩
  | klst ys =>
    cases e
    simp only [Rep] at R
    obtain ⟨a, vs, e1, q, r⟩ := R
    exact ⟨a, vs, e1, W.same.seq q, r, sq_small W.small q⟩
  | obj i =>
    simp only [Rep] at R
    obtain ⟨a, e1, q, q2⟩ := R
    obtain ⟨g, ys, o, h1, h2, h3⟩ := W.at_ i a q
    rw [q2] at h3
    obtain ⟨vs, rfl, h3, h4⟩ := h3
    have e2 : (match st[i]? with | some xs => D.lst xs | none => D.obj i) = .lst xs := e
    rw [h1] at e2
    cases e2
    exact ⟨a, vs, e1, .of h2, h4, h3⟩
  | _ => cases e
/-- lists that may be put together with others -/
def derefM (st : Sto) : D → Option (List D)
  | .obj i => st[i]?
  | .lst xs => some xs
  | _ => none
theorem rep_lstM {d : D} {v : V} {xs : List D} (W : Wld K w st H) (R : Rep K w d v) (e : derefM st d = some xs) :
    ∃ a vs, v = .ref a ∧ H a = some (.lst vs) ∧ Reps K w xs vs ∧ vs.length ≤ sizeLine := by
  cases d with
  | lst ys =>
    cases e
    simp only [Rep] at R
    obtain ⟨a, vs, e1, q, r⟩ := R
    exact ⟨a, vs, e1, W.same _ _ q, r, W.small _ _ q⟩
  | obj i =>
    simp only [Rep] at R
    obtain ⟨a, e1, q, q2⟩ := R
    obtain ⟨g, ys, o, h1, h2, h3⟩ := W.at_ i a q
    rw [q2] at h3
    obtain ⟨vs, rfl, h3, h4⟩ := h3
    have e2 : st[i]? = some xs := e
    rw [h1] at e2
    cases e2
    exact ⟨a, vs, e1, h2, h4, h3⟩
  | _ => cases e
theorem rep_tup {d : D} {v : V} {xs : List D} (W : Wld K w st H) (R : Rep K w d v) (e : deref st d = .tup xs) :
    ∃ a vs, v = .ref a ∧ SqT K H a vs ∧ Reps K w xs vs ∧ vs.length ≤ sizeLine := by
  cases d with
  | tup ys =>
    cases e
    simp only [Rep] at R
    obtain ⟨a, vs, e1, q, r⟩ := R
    exact ⟨a, vs, e1, .of (W.same _ _ q), r, W.small _ _ q⟩
  | gtup ys =>
    cases e
    simp only [Rep] at R
    obtain ⟨a, vs, e1, q, r⟩ := R
    exact ⟨a, vs, e1, seqT_mono W.same q, r, sqt_small W.small q⟩
  | obj i =>
    have e2 : (match st[i]? with | some xs => D.lst xs | none => D.obj i) = .tup xs := e
    cases h : st[i]? with
    | none => rw [h] at e2; cases e2
    | some _ => rw [h] at e2; cases e2
  | _ => cases e
theorem Wld.free (W : Wld K w st H) {p : Addr} (h : H p = none) : w.G p = none := W.same.free h
theorem Wld.nas (W : Wld K w st H) {p : Addr} (h : H p = none) : p ∉ w.as := fun m => by
  obtain ⟨i, hi⟩ := List.getElem?_of_mem m
  obtain ⟨_, xs, o, _, e, _⟩ := W.at_ i p hi
  rw [h] at e
  cases e
/-- a new frozen object -/
def Wd.put (w : Wd) (p : Addr) (o : HO) : Wd := ⟨upd w.G p o, w.as, w.hid, w.dk⟩
theorem Le.put {p : Addr} {o : HO} (h : w.G p = none) : Le w (w.put p o) := ⟨⟨fun b u e => by
  show upd w.G p o b = some u
  rw [upd_ne (ne_of_none e h)]
  exact e, .eq rfl rfl⟩, rfl⟩
theorem Wld.put (W : Wld K w st H) {p : Addr} {o : HO} (h : H p = none) (s : SizeOk o) : Wld K (w.put p o) st (upd H p o) := by
  have hg := W.free h
  have l := Le.put (w := w) (o := o) hg
  refine ⟨fun b u e => ?_, W.len, W.nd, fun i a e => ?_, fun a u e => ?_, fun a vs e => ?_, W.hnd⟩
  · by_cases hb : b = p
    · subst hb
      have e' : upd w.G b o b = some u := e
      rw [upd_same] at e' ⊢
      exact e'
    · have e' : upd w.G p o b = some u := e
      rw [upd_ne hb] at e' ⊢
      exact W.same b u e'
  · obtain ⟨g, xs, u, h1, h2, h3⟩ := W.at_ i a e
    have ne : a ≠ p := fun z => by rw [z, h] at h2; cases h2
    refine ⟨?_, xs, u, h1, by rw [upd_ne ne]; exact h2, h3.mono l⟩
    show upd w.G p o a = none
    rw [upd_ne ne]
    exact g
  · have e' : upd w.G p o a = some u := e
    by_cases ha : a = p
    · subst ha
      rw [upd_same] at e'
      cases e'
      exact s
    · rw [upd_ne ha] at e'
      exact W.small a u e'
  · obtain ⟨g, n, h1⟩ := W.hidd a vs e
    have ne : a ≠ p := fun z => by rw [z, h] at h1; cases h1
    refine ⟨?_, n, by rw [upd_ne ne]; exact h1⟩
    show upd w.G p o a = none
    rw [upd_ne ne]
    exact g
/-- a new object of the store -/
def Wd.addK (w : Wd) (p : Addr) (k : Option Bool) : Wd := ⟨w.G, w.as ++ [p], w.hid, fun b => if b = p then k else w.dk b⟩
theorem Pre.addK {p : Addr} {k : Option Bool} (h : p ∉ w.as) : Pre w (w.addK p k) := ⟨⟨[p], rfl⟩, fun a ha => if_neg fun (z : a = p) => h (z ▸ ha)⟩
theorem Le.addK {p : Addr} {k : Option Bool} (h : p ∉ w.as) : Le w (w.addK p k) := ⟨⟨Same.refl _, .addK h⟩, rfl⟩
theorem Wld.addK (W : Wld K w st H) {p : Addr} {k : Option Bool} {xs : List D} {o : HO} (h : H p = none) (r : EntR K w k xs o) : Wld K (w.addK p k) (st ++ [xs]) (upd H p o) := by
  have hg := W.free h
  have hn := W.nas h
  refine ⟨fun b u e => ?_, ?_, ?_, fun i a e => ?_, W.small, fun a vs e => ?_, W.hnd⟩
  · have ne : b ≠ p := fun z => by
      have e' : w.G b = some u := e
      rw [z, hg] at e'
      cases e'
    rw [upd_ne ne]
    exact W.same b u e
  · show (w.as ++ [p]).length = (st ++ [xs]).length
    rw [List.length_append, List.length_append, W.len]
    rfl
  · show (w.as ++ [p]).Nodup
    refine List.nodup_append.mpr ⟨W.nd, by simp, fun a ha b hb z => ?_⟩
    have : b = p := by simpa using hb
    subst this
    rw [z] at ha
    exact hn ha
  · have e' : (w.as ++ [p])[i]? = some a := e
    by_cases hi : i < w.as.length
    · rw [List.getElem?_append_left hi] at e'
      obtain ⟨g, ys, u, h1, h2, h3⟩ := W.at_ i a e'
      have ne : a ≠ p := fun z => by rw [z, h] at h2; cases h2
      have ek : (w.addK p k).dk a = w.dk a := if_neg ne
      exact ⟨g, ys, u, by rw [List.getElem?_append_left (by rw [← W.len]; exact hi)]; exact h1, by rw [upd_ne ne]; exact h2, by rw [ek]; exact h3.mono (.addK hn)⟩
    · have hi2 : i = w.as.length := by
        have := (List.getElem?_eq_some_iff.mp e').1
        simp at this
        omega
      subst hi2
      rw [List.getElem?_concat_length] at e'
      cases e'
      have ek : (w.addK p k).dk p = k := if_pos rfl
      exact ⟨hg, xs, o, by rw [W.len, List.getElem?_concat_length], upd_same, by rw [ek]; exact r.mono (.addK hn)⟩
  · obtain ⟨g, n, h1⟩ := W.hidd a vs e
    have ne : a ≠ p := fun z => by rw [z, h] at h1; cases h1
    refine ⟨g, fun m => ?_, by rw [upd_ne ne]; exact h1⟩
    have m' : a ∈ w.as ++ [p] := m
    rcases List.mem_append.mp m' with z | z
    · exact n z
    · exact ne (by simpa using z)
/-- a new list of the store -/
def Wd.add (w : Wd) (p : Addr) : Wd := w.addK p none
theorem Wld.add (W : Wld K w st H) {p : Addr} {xs : List D} {vs : List V} (h : H p = none) (r : Reps K w xs vs) (s : vs.length ≤ sizeLine) : Wld K (w.add p) (st ++ [xs]) (upd H p (.lst vs)) := W.addK h ⟨vs, rfl, s, r⟩
/-- an object of the store written -/
theorem Wld.wrK (W : Wld K w st H) {i : Nat} {a : Addr} {xs : List D} {o : HO} (ha : w.as[i]? = some a) (r : EntR K w (w.dk a) xs o) : Wld K w (st.set i xs) (upd H a o) := by
  obtain ⟨g, ys, us, h1, h2, h3⟩ := W.at_ i a ha
  refine ⟨fun b u e => ?_, by rw [List.length_set]; exact W.len, W.nd, fun j b e => ?_, W.small, fun b vs e => ?_, W.hnd⟩
  · have ne : b ≠ a := fun z => by rw [z, g] at e; cases e
    rw [upd_ne ne]
    exact W.same b u e
  · by_cases hj : j = i
    · subst hj
      rw [ha] at e
      cases e
      exact ⟨g, xs, o, List.getElem?_set_self (List.getElem?_eq_some_iff.mp h1).1, upd_same, r⟩
    · obtain ⟨g', zs, ws, k1, k2, k3⟩ := W.at_ j b e
      have ne : b ≠ a := fun z => by
        subst z
        exact hj (nd_ix W.nd e ha)
      exact ⟨g', zs, ws, by rw [List.getElem?_set_ne (Ne.symm hj)]; exact k1, by rw [upd_ne ne]; exact k2, k3⟩
  · obtain ⟨g', n, h'⟩ := W.hidd b vs e
    have ne : b ≠ a := fun z => n (by rw [z]; exact List.mem_of_getElem? ha)
    exact ⟨g', n, by rw [upd_ne ne]; exact h'⟩
/-- a list of the store written -/
theorem Wld.wr (W : Wld K w st H) {i : Nat} {a : Addr} {xs : List D} {vs : List V} (ha : w.as[i]? = some a) (hk : w.dk a = none) (r : Reps K w xs vs) (s : vs.length ≤ sizeLine) : Wld K w (st.set i xs) (upd H a (.lst vs)) :=
  W.wrK ha (by rw [hk]; exact ⟨vs, rfl, s, r⟩)
end

/-! ### readings over data -/
abbrev DK := D → Sto → Prop
abbrev DE := Env → Sto → DK → Prop
abbrev DT := Env → Sto → (Bool → Sto → Prop) → Prop
abbrev DA := Env → Sto → (List D → Sto → Prop) → Prop
structure DEnds where
  nx : Env → Sto → Prop
  rt : DK
abbrev DS := DEnds → Env → Sto → Prop

def EnvR (K : PySem.W.Frag) (w : Wd) (env : Env) (σ : L2.St) : Prop :=
  env.length = σ.length ∧ ∀ (i : Nat) (d : D), env[i]? = some (some d) → ∃ v, σ[i]? = some (some v) ∧ Rep K w d v
theorem EnvR.mono {K : PySem.W.Frag} {w w' : Wd} {env : Env} {σ : L2.St} (h : EnvR K w env σ) (l : Le w w') : EnvR K w' env σ :=
  ⟨h.1, fun i d e => let ⟨v, e1, r⟩ := h.2 i d e; ⟨v, e1, Rep.mono l _ _ r⟩⟩
theorem EnvR.mono0 {K : PySem.W.Frag} {w w' : Wd} {env : Env} {σ : L2.St} (h : EnvR K w env σ) (l : Le0 w w') : EnvR K w' env σ :=
  ⟨h.1, fun i d e => let ⟨v, e1, r⟩ := h.2 i d e; ⟨v, e1, Rep.mono' l.same l.pre _ _ r⟩⟩
theorem EnvR.set {K : PySem.W.Frag} {w : Wd} {env : Env} {σ : L2.St} (h : EnvR K w env σ) {d : D} {v : V} (i : Nat) (r : Rep K w d v) : EnvR K w (env.set i (some d)) (σ.set i (some v)) := by
  refine ⟨by simp [h.1], fun j x e => ?_⟩
  by_cases hj : j = i
  · subst hj
    have hlt : j < env.length := by
      have := (List.getElem?_eq_some_iff.mp e).1
      simpa using this
    rw [List.getElem?_set_self hlt] at e
    cases e
    exact ⟨v, List.getElem?_set_self (by rw [← h.1]; exact hlt), r⟩
  · rw [List.getElem?_set_ne (Ne.symm hj)] at e
    obtain ⟨u, e1, r1⟩ := h.2 j x e
    exact ⟨u, by rw [List.getElem?_set_ne (Ne.symm hj)]; exact e1, r1⟩
theorem EnvR.unset {K : PySem.W.Frag} {w : Wd} {env : Env} {σ : L2.St} (h : EnvR K w env σ) (i : Nat) : EnvR K w (env.set i none) (σ.set i none) := by
  refine ⟨by simp [h.1], fun j x e => ?_⟩
  by_cases hj : j = i
  · subst hj
    have hlt : j < env.length := by
      have := (List.getElem?_eq_some_iff.mp e).1
      simpa using this
    rw [List.getElem?_set_self hlt] at e
    cases e
  · rw [List.getElem?_set_ne (Ne.symm hj)] at e
    obtain ⟨u, e1, r1⟩ := h.2 j x e
    exact ⟨u, by rw [List.getElem?_set_ne (Ne.symm hj)]; exact e1, r1⟩

/-- what must follow a value that comes -/
def Fol (K : PySem.W.Frag) (w : Wd) (kk : DK) (Q : VK) : Prop := ∀ d st' v w' H', kk d st' → Le w w' → Wld K w' st' H' → Rep K w' d v → Q v H'
def tD (K : PySem.W.Frag) (t : DE) : TE := fun σ H Q => ∃ w env st kk, Wld K w st H ∧ EnvR K w env σ ∧ t env st kk ∧ Fol K w kk Q
def FolT (K : PySem.W.Frag) (w : Wd) (kk : Bool → Sto → Prop) (Q : Bool → Hp → Prop) : Prop := ∀ b st' w' H', kk b st' → Le w w' → Wld K w' st' H' → Q b H'
def tDT (K : PySem.W.Frag) (t : DT) : TT := fun σ H Q => ∃ w env st kk, Wld K w st H ∧ EnvR K w env σ ∧ t env st kk ∧ FolT K w kk Q
def FolA (K : PySem.W.Frag) (w : Wd) (kk : List D → Sto → Prop) (Q : List V → Hp → Prop) : Prop := ∀ ds st' vs w' H', kk ds st' → Le w w' → Wld K w' st' H' → Reps K w' ds vs → Q vs H'
def tDA (K : PySem.W.Frag) (t : DA) : TA := fun σ H Q => ∃ w env st kk, Wld K w st H ∧ EnvR K w env σ ∧ t env st kk ∧ FolA K w kk Q
def FolN (K : PySem.W.Frag) (w : Wd) (nx : Env → Sto → Prop) (Q : L2.St → Hp → Prop) : Prop := ∀ env' st' σ' w' H', nx env' st' → Le w w' → Wld K w' st' H' → EnvR K w' env' σ' → Q σ' H'
def tDS (K : PySem.W.Frag) (t : DS) : TS := fun E σ H => ∃ w env st, ∃ (D : DEnds), Wld K w st H ∧ EnvR K w env σ ∧ t D env st ∧ FolN K w D.nx E.nx ∧ Fol K w D.rt E.rt
abbrev PD (X : Cx) (e : Expr) (t : DE) : Prop := PE X e (tD X.K t)
abbrev PDT (X : Cx) (e : Expr) (t : DT) : Prop := PT X e (tDT X.K t)
abbrev PDA (X : Cx) (es : List Expr) (t : DA) : Prop := PA X es (tDA X.K t)
abbrev PDS (X : Cx) (st : Stmt) (t : DS) : Prop := PS X st (tDS X.K t)
abbrev PDSs (X : Cx) (st : List Stmt) (t : DS) : Prop := PSs X st (tDS X.K t)

section
variable {K : PySem.W.Frag} {w w' : Wd} {kk : DK} {Q : VK}
theorem Fol.le (h : Fol K w kk Q) (l : Le w w') : Fol K w' kk Q := fun d st' v w2 H' k l2 => h d st' v w2 H' k (l.trans l2)
theorem FolT.le {kk : Bool → Sto → Prop} {Q : Bool → Hp → Prop} (h : FolT K w kk Q) (l : Le w w') : FolT K w' kk Q := fun d st' w2 H' k l2 => h d st' w2 H' k (l.trans l2)
theorem FolA.le {kk : List D → Sto → Prop} {Q : List V → Hp → Prop} (h : FolA K w kk Q) (l : Le w w') : FolA K w' kk Q := fun d st' v w2 H' k l2 => h d st' v w2 H' k (l.trans l2)
theorem FolN.le {nx : Env → Sto → Prop} {Q : L2.St → Hp → Prop} (h : FolN K w nx Q) (l : Le w w') : FolN K w' nx Q := fun d st' v w2 H' k l2 => h d st' v w2 H' k (l.trans l2)
theorem Fol.id {st : Sto} {H : Hp} {d : D} {v : V} (h : Fol K w kk Q) (k : kk d st) (W : Wld K w st H) (R : Rep K w d v) : Q v H := h d st v w H k (.refl w) W R
end
theorem _root_.L2.PE.wk {X : Cx} {e : Expr} {t t' : TE} (h : PE X e t) (i : ∀ σ H Q, t' σ H Q → t σ H Q) : PE X e t' := ⟨fun pins s σ H Q I q => h.run pins s σ H Q I (i σ H Q q)⟩
theorem _root_.L2.PT.wk {X : Cx} {e : Expr} {t t' : TT} (h : PT X e t) (i : ∀ σ H Q, t' σ H Q → t σ H Q) : PT X e t' := ⟨fun pins s σ H Q I q => h.run pins s σ H Q I (i σ H Q q)⟩
theorem _root_.L2.PA.wk {X : Cx} {e : List Expr} {t t' : TA} (h : PA X e t) (i : ∀ σ H Q, t' σ H Q → t σ H Q) : PA X e t' := ⟨fun ps pins s σ H Q I q => h.run ps pins s σ H Q I (i σ H Q q)⟩
theorem _root_.L2.PS.wk {X : Cx} {e : Stmt} {t t' : TS} (h : PS X e t) (i : ∀ D σ H, t' D σ H → t D σ H) : PS X e t' := ⟨fun pins s σ H D I q => h.run pins s σ H D I (i D σ H q)⟩
theorem _root_.L2.PSs.wk {X : Cx} {e : List Stmt} {t t' : TS} (h : PSs X e t) (i : ∀ D σ H, t' D σ H → t D σ H) : PSs X e t' := ⟨fun pins s σ H D I q => h.run pins s σ H D I (i D σ H q)⟩

/-! ### names, constants -/
section
variable {X : Cx} {e a b : Expr} {es : List Expr} {pos : Pos} {ta tb : DE}
def dVar (i : Nat) : DE := fun env st k => match env[i]? with
  | some (some d) => k d st
  | _ => False
theorem pd_var (i : Nat) {x : Str} (hN : X.N[i]? = some x := by rfl) (hv : Vis X.env.scope x := by first | exact Or.inl rfl | exact Or.inr (Or.inl rfl) | exact Or.inr (Or.inr rfl)) (hd : (x == ("__debug__" : Str)) = false := by decide)
    (hcd : (x == ("__classdict__" : Str)) = false := by decide) : PD X (.Name x pos) (dVar i) := by
  refine (pe_var hN hv hd hcd).wk fun σ H Q ⟨w, env, st, kk, W, E, h, f⟩ => ?_
  unfold dVar at h
  split at h
  · rename_i d e
    obtain ⟨v, e1, r⟩ := E.2 i d e
    exact ⟨v, e1, f.id h W r⟩
  · exact h.elim
def dC (d : D) : DE := fun _ st k => k d st
theorem pd_of {v : V} {d : D} (h : PE X e (tC v)) (r : ∀ w, Rep X.K w d v) : PD X e (dC d) :=
  h.wk fun σ H Q ⟨w, env, st, kk, W, E, h, f⟩ => f.id h W (r w)
theorem pd_int {i j} : PD X (.Constant (.int i) j pos) (dC (.int i)) := pd_of pe_int fun w => by simp only [Rep]
theorem pd_bl {i j} : PD X (.Constant (.bool i) j pos) (dC (.bl i)) := pd_of pe_bl fun w => by simp only [Rep]
theorem pd_non {j} : PD X (.Constant .none j pos) (dC .non) := pd_of pe_non fun w => by simp only [Rep]
theorem pd_str {i j} : PD X (.Constant (.str i) j pos) (dC (.str i)) := pd_of pe_str fun w => by simp only [Rep]
theorem pd_gstr {x z : Str} (hm : ∃ t, X.mg x = some (.str z t)) (hg : Gl X x := by rfl) (hd : (x == ("__debug__" : Str)) = false := by decide) : PD X (.Name x pos) (dC (.str z)) := by
  obtain ⟨t, hm⟩ := hm
  exact pd_of (pe_glob (v := .str z) hg hm ⟨t, rfl⟩ hd) fun w => by simp only [Rep]
theorem pd_gint {x : Str} {i : Int} (hm : ∃ t, X.mg x = some (.int i t)) (hg : Gl X x := by rfl) (hd : (x == ("__debug__" : Str)) = false := by decide) : PD X (.Name x pos) (dC (.int i)) := by
  obtain ⟨t, hm⟩ := hm
  exact pd_of (pe_glob (v := .int i) hg hm ⟨t, rfl⟩ hd) fun w => by simp only [Rep]

/-! ### two values, an operator -/
abbrev F2 := D → D → Sto → DK → Prop
def dOp (f : F2) (ta tb : DE) : DE := fun env st k => ta env st fun x s1 => tb env s1 fun y s2 => f x y s2 k
def rD (K : PySem.W.Frag) (f : F2) : R2 := fun x y H Q => ∃ w st d e kk, Wld K w st H ∧ Rep K w d x ∧ Rep K w e y ∧ f d e st kk ∧ Fol K w kk Q
theorem d2_in {K : PySem.W.Frag} {f : F2} {σ : L2.St} {H : Hp} {Q : VK} (h : tD K (dOp f ta tb) σ H Q) : tOp (rD K f) (tD K ta) (tD K tb) σ H Q := by
  obtain ⟨w, env, st, kk, W, E, h, fo⟩ := h
  exact ⟨w, env, st, _, W, E, h, fun d st1 v w1 H1 h1 l1 W1 R1 => ⟨w1, env, st1, _, W1, E.mono l1, h1, fun e st2 u w2 H2 h2 l2 W2 R2 =>
    ⟨w2, st2, d, e, kk, W2, Rep.mono l2 _ _ R1, R2, h2, fo.le (l1.trans l2)⟩⟩⟩
theorem pd_op {op : Operator} {f : F2} (ho : OpR X (binaryOp op) (rD X.K f)) (ha : PD X a ta) (hb : PD X b tb) : PD X (.BinOp a op b pos) (dOp f ta tb) :=
  (pe_op ho ha hb).wk fun _ _ _ h => d2_in h
theorem pd_cmp {op : CmpOp} {f : F2} (ho : OpR X (compareOp op) (rD X.K f)) (ha : PD X a ta) (hb : PD X b tb) (hm : behindInMarks op b = false) : PD X (.Compare a [op] [b] pos) (dOp f ta tb) :=
  (pe_cmpR ho ha hb hm).wk fun _ _ _ h => d2_in h
/-- a value that is True or False, as a test -/
def dTest (t : DE) : DT := fun env st k => t env st fun d s1 => match d with
  | .bl b => k b s1
  | _ => False
theorem pd_tcmp {op : CmpOp} {f : F2} (ho : OpR X (compareOp op) (rD X.K f)) (ha : PD X a ta) (hb : PD X b tb) (hm : behindInMarks op b = false) : PDT X (.Compare a [op] [b] pos) (dTest (dOp f ta tb)) := by
  refine (pt_cmpR ho ha hb hm).wk fun σ H Q ⟨w, env, st, kk, W, E, h, fo⟩ => ?_
  refine d2_in (Q := fun x H' => ∃ k, x = .bl k ∧ Q k H') ⟨w, env, st, _, W, E, h, fun d st1 v w1 H1 h1 l1 W1 R1 => ?_⟩
  cases d with
  | bl b =>
    simp only [Rep] at R1
    exact ⟨b, R1, fo b st1 w1 H1 h1 l1 W1⟩
  | _ => exact h1.elim
/-- a one-place operation -/
abbrev F1 := D → Sto → DK → Prop
def dUn (f : F1) (ta : DE) : DE := fun env st k => ta env st fun x s1 => f x s1 k
def rD1 (K : PySem.W.Frag) (f : F1) : V → Hp → VK → Prop := fun x H Q => ∃ w st d kk, Wld K w st H ∧ Rep K w d x ∧ f d st kk ∧ Fol K w kk Q
theorem d1_in {K : PySem.W.Frag} {f : F1} {σ : L2.St} {H : Hp} {Q : VK} (h : tD K (dUn f ta) σ H Q) : tUn (rD1 K f) (tD K ta) σ H Q := by
  obtain ⟨w, env, st, kk, W, E, h, fo⟩ := h
  exact ⟨w, env, st, _, W, E, h, fun d st1 v w1 H1 h1 l1 W1 R1 => ⟨w1, st1, d, kk, W1, R1, h1, fo.le l1⟩⟩
theorem pd_un {op : UnaryOp} {f : F1} (ho : UnR X (unaryOp op) (rD1 X.K f)) (ha : PD X a ta) : PD X (.UnaryOp op a pos) (dUn f ta) :=
  (pe_un ho ha).wk fun _ _ _ h => d1_in h

/-! ### tests -/
def truD (st : Sto) (d : D) : Bool := match deref st d with
  | .non => false
  | .bl b => b
  | .int i => i != 0
  | .str x => (x.length : Int) != 0
  | .lst xs => !xs.isEmpty
  | .tup xs => !xs.isEmpty
  | .klst _ => false
  | .obj _ => false
  | .dic _ _ => false
  | .fdic _ _ => false
  | .gtup _ => false
def OkTru (st : Sto) (d : D) : Prop := match deref st d with
  | .str x => x.length ≤ sizeLine
  | .klst _ => False
  | .obj _ => False
  | .dic _ _ => False
  | .fdic _ _ => False
  | .gtup _ => False
  | _ => True
def dTru (t : DE) : DT := fun env st k => t env st fun d s1 => OkTru s1 d ∧ k (truD s1 d) s1
theorem tru_rep {K : PySem.W.Frag} {w : Wd} {st : Sto} {H : Hp} {d : D} {v : V} (W : Wld K w st H) (R : Rep K w d v) (ok : OkTru st d) : TruV K v H (truD st d) := by
  unfold OkTru at ok
  unfold truD
  have nl : ∀ {xs : List D} {vs : List V}, Reps K w xs vs → (!xs.isEmpty) = !vs.isEmpty := fun {xs vs} r => by
    cases xs with
    | nil => rw [r.inv0]; rfl
    | cons d ds => obtain ⟨v, r', rfl, _, _⟩ := r.inv; rfl
  cases e : deref st d with
  | obj i => rw [e] at ok; exact ok.elim
  | klst i => rw [e] at ok; exact ok.elim
  | dic _ _ => rw [e] at ok; exact ok.elim
  | fdic _ _ => rw [e] at ok; exact ok.elim
  | gtup _ => rw [e] at ok; exact ok.elim
  | lst xs =>
    obtain ⟨a, vs, rfl, q, r, _⟩ := rep_lst W R e
    exact .inl ⟨vs, q, nl r⟩
  | tup xs =>
    obtain ⟨a, vs, rfl, q, r, _⟩ := rep_tup W R e
    exact .inr (.inl ⟨vs, q, nl r⟩)
  | non =>
    have : d = .non := deref_self e (fun _ z => by cases z) (fun _ z => by cases z)
    subst this
    simp only [Rep] at R
    subst R
    rfl
  | bl b =>
    have : d = .bl b := deref_self e (fun _ z => by cases z) (fun _ z => by cases z)
    subst this
    simp only [Rep] at R
    subst R
    rfl
  | int b =>
    have : d = .int b := deref_self e (fun _ z => by cases z) (fun _ z => by cases z)
    subst this
    simp only [Rep] at R
    subst R
    rfl
  | str b =>
    have : d = .str b := deref_self e (fun _ z => by cases z) (fun _ z => by cases z)
    subst this
    simp only [Rep] at R
    subst R
    rw [e] at ok
    exact ⟨ok, rfl⟩
theorem pd_tru (ha : PD X a ta) (he : ∀ whole, isTrue a X.env whole = (do let v ← whole; standAt a.pos; holding [v] (truthy v)) := by intro _; rfl) : PDT X a (dTru ta) := by
  refine (pt_truth ha he).wk fun σ H Q ⟨w, env, st, kk, W, E, h, fo⟩ => ?_
  exact ⟨w, env, st, _, W, E, h, fun d st1 v w1 H1 h1 l1 W1 R1 => ⟨_, tru_rep W1 R1 h1.1, fo _ st1 w1 H1 h1.2 l1 W1⟩⟩
def dNot (t : DT) : DT := fun env st k => t env st fun b s1 => k (!b) s1
theorem pd_tnot {t : DT} (ha : PDT X a t) : PDT X (.UnaryOp .Not a pos) (dNot t) := by
  refine (pt_not ha).wk fun σ H Q ⟨w, env, st, kk, W, E, h, fo⟩ => ?_
  exact ⟨w, env, st, _, W, E, h, fun b st1 w1 H1 h1 l1 W1 => fo _ st1 w1 H1 h1 l1 W1⟩
def dAnd (t u : DT) : DT := fun env st k => t env st fun b s1 => if b = true then u env s1 k else k false s1
def dOr (t u : DT) : DT := fun env st k => t env st fun b s1 => if b = true then k true s1 else u env s1 k
abbrev PDW (X : Cx) (e : Expr) (t : DT) : Prop := PW X e (tDT X.K t)
theorem _root_.L2.PW.wk {X : Cx} {e : Expr} {t t' : TT} (h : PW X e t) (i : ∀ σ H Q, t' σ H Q → t σ H Q) : PW X e t' := ⟨fun wh pins s σ H Q I q => h.run wh pins s σ H Q I (i σ H Q q)⟩
theorem pw_dand {rest : List Expr} {t u : DT} (ha : PDT X a t) (hb : PDW X (.BoolOp .And (b :: rest) pos) u) : PDW X (.BoolOp .And (a :: b :: rest) pos) (dAnd t u) := by
  refine L2.PW.wk (pw_and ha hb) fun σ H Q ⟨w, env, st, kk, W, E, h, fo⟩ => ?_
  refine ⟨w, env, st, _, W, E, h, fun c st1 w1 H1 h1 l1 W1 => ?_⟩
  cases c with
  | true =>
    rw [if_pos rfl] at h1 ⊢
    exact ⟨w1, env, st1, _, W1, E.mono l1, h1, fo.le l1⟩
  | false =>
    rw [if_neg Bool.false_ne_true] at h1 ⊢
    exact fo _ _ _ _ h1 l1 W1
theorem pw_dor {rest : List Expr} {t u : DT} (ha : PDT X a t) (hb : PDW X (.BoolOp .Or (b :: rest) pos) u) : PDW X (.BoolOp .Or (a :: b :: rest) pos) (dOr t u) := by
  refine L2.PW.wk (pw_or ha hb) fun σ H Q ⟨w, env, st, kk, W, E, h, fo⟩ => ?_
  refine ⟨w, env, st, _, W, E, h, fun c st1 w1 H1 h1 l1 W1 => ?_⟩
  cases c with
  | false =>
    rw [if_neg Bool.false_ne_true] at h1 ⊢
    exact ⟨w1, env, st1, _, W1, E.mono l1, h1, fo.le l1⟩
  | true =>
    rw [if_pos rfl] at h1 ⊢
    exact fo _ _ _ _ h1 l1 W1
/-- as values: all but the last True or False -/
def dAndV (t u : DE) : DE := fun env st k => t env st fun d s1 => match d with
  | .bl b => if b = true then u env s1 k else k (.bl false) s1
  | _ => False
def dOrV (t u : DE) : DE := fun env st k => t env st fun d s1 => match d with
  | .bl b => if b = true then k (.bl true) s1 else u env s1 k
  | _ => False
def dNotV (t : DE) : DE := fun env st k => t env st fun d s1 => match d with
  | .bl b => k (.bl (!b)) s1
  | _ => False
theorem pd_andv {rest : List Expr} {t u : DE} (ha : PD X a t) (hb : PD X (.BoolOp .And (b :: rest) pos) u) : PD X (.BoolOp .And (a :: b :: rest) pos) (dAndV t u) := by
  refine (pe_and ha hb).wk fun σ H Q ⟨w, env, st, kk, W, E, h, fo⟩ => ?_
  refine ⟨w, env, st, _, W, E, h, fun d st1 v w1 H1 h1 l1 W1 R1 => ?_⟩
  cases d with
  | bl c =>
    simp only [Rep] at R1
    refine ⟨c, R1, ?_⟩
    cases c with
    | true =>
      simp only [↓reduceIte] at h1 ⊢
      exact ⟨w1, env, st1, _, W1, E.mono l1, h1, fo.le l1⟩
    | false =>
      simp only [Bool.false_eq_true, ↓reduceIte] at h1 ⊢
      exact fo _ _ _ _ _ h1 l1 W1 (by simp only [Rep])
  | _ => exact h1.elim
theorem pd_orv {rest : List Expr} {t u : DE} (ha : PD X a t) (hb : PD X (.BoolOp .Or (b :: rest) pos) u) : PD X (.BoolOp .Or (a :: b :: rest) pos) (dOrV t u) := by
  refine (pe_or ha hb).wk fun σ H Q ⟨w, env, st, kk, W, E, h, fo⟩ => ?_
  refine ⟨w, env, st, _, W, E, h, fun d st1 v w1 H1 h1 l1 W1 R1 => ?_⟩
  cases d with
  | bl c =>
    simp only [Rep] at R1
    refine ⟨c, R1, ?_⟩
    cases c with
    | false =>
      simp only [Bool.false_eq_true, ↓reduceIte] at h1 ⊢
      exact ⟨w1, env, st1, _, W1, E.mono l1, h1, fo.le l1⟩
    | true =>
      simp only [↓reduceIte] at h1 ⊢
      exact fo _ _ _ _ _ h1 l1 W1 (by simp only [Rep])
  | _ => exact h1.elim
theorem pd_notv {t : DE} (ha : PD X a t) : PD X (.UnaryOp .Not a pos) (dNotV t) := by
  refine (pe_not ha).wk fun σ H Q ⟨w, env, st, kk, W, E, h, fo⟩ => ?_
  refine ⟨w, env, st, _, W, E, h, fun d st1 v w1 H1 h1 l1 W1 R1 => ?_⟩
  cases d with
  | bl c =>
    simp only [Rep] at R1
    exact ⟨c, R1, fo _ _ _ _ _ h1 l1 W1 (by simp only [Rep])⟩
  | _ => exact h1.elim
def dIf (c : DT) (t u : DE) : DE := fun env st k => c env st fun b s1 => if b = true then t env s1 k else u env s1 k
theorem pd_ife {c : Expr} {tc : DT} {t u : DE} (hc : PDT X c tc) (ha : PD X a t) (hb : PD X b u) : PD X (.IfExp c a b pos) (dIf tc t u) := by
  refine (pe_ifExp hc ha hb).wk fun σ H Q ⟨w, env, st, kk, W, E, h, fo⟩ => ?_
  refine ⟨w, env, st, _, W, E, h, fun c st1 w1 H1 h1 l1 W1 => ?_⟩
  cases c with
  | true =>
    rw [if_pos rfl] at h1 ⊢
    exact ⟨w1, env, st1, _, W1, E.mono l1, h1, fo.le l1⟩
  | false =>
    rw [if_neg Bool.false_ne_true] at h1 ⊢
    exact ⟨w1, env, st1, _, W1, E.mono l1, h1, fo.le l1⟩

/-! ### argument lists, displays -/
def dNil : DA := fun _ st k => k [] st
def dCons (t : DE) (u : DA) : DA := fun env st k => t env st fun d s1 => u env s1 fun ds s2 => k (d :: ds) s2
theorem pda_nil : PDA X [] dNil := pa_nil.wk fun σ H Q ⟨w, env, st, kk, W, E, h, fo⟩ => fo _ _ _ _ _ h (.refl _) W .nil
theorem pda_cons {t : DE} {u : DA} (ha : PD X e t) (hr : PDA X es u) (hs : starEach (e :: es) X.env = (false, eval e X.env) :: starEach es X.env := by rfl) : PDA X (e :: es) (dCons t u) := by
  refine (pa_cons ha hr hs).wk fun σ H Q ⟨w, env, st, kk, W, E, h, fo⟩ => ?_
  exact ⟨w, env, st, _, W, E, h, fun d st1 v w1 H1 h1 l1 W1 R1 => ⟨w1, env, st1, _, W1, E.mono l1, h1, fun ds st2 vs w2 H2 h2 l2 W2 R2 =>
    fo _ _ _ _ _ h2 (l1.trans l2) W2 (.cons (Rep.mono l2 _ _ R1) R2)⟩⟩
def dTup (t : DA) : DE := fun env st k => t env st fun ds s1 => ds.length ≤ 16777216 ∧ k (.tup ds) s1
/-- a list display that nobody changes -/
def dLst (t : DA) : DE := fun env st k => t env st fun ds s1 => ds.length ≤ 16777216 ∧ k (.lst ds) s1
/-- a list display of the store -/
def dNew (t : DA) : DE := fun env st k => t env st fun ds s1 => ds.length ≤ 16777216 ∧ k (.obj s1.length) (s1 ++ [ds])
theorem line16 {n : Nat} (h : n ≤ 16777216) : n ≤ sizeLine := by rw [sizeLine_eq]; exact h
theorem fol_tup {K : PySem.W.Frag} {w : Wd} {st : Sto} {H : Hp} {kk : DK} {Q : VK} {ds : List D} {vs : List V} (W : Wld K w st H) (R : Reps K w ds vs) (n : vs.length ≤ sizeLine) (k : kk (.tup ds) st) (fo : Fol K w kk Q) :
    ∀ p, H p = none → Q (.ref p) (upd H p (.tup vs)) := fun p hp => by
  have l := Le.put (w := w) (o := .tup vs) (W.free hp)
  refine fo _ _ _ _ _ k l (W.put hp n) ?_
  simp only [Rep]
  exact ⟨p, vs, rfl, upd_same, Reps.mono l _ _ R⟩
theorem fol_lst {K : PySem.W.Frag} {w : Wd} {st : Sto} {H : Hp} {kk : DK} {Q : VK} {ds : List D} {vs : List V} (W : Wld K w st H) (R : Reps K w ds vs) (n : vs.length ≤ sizeLine) (k : kk (.lst ds) st) (fo : Fol K w kk Q) :
    ∀ p, H p = none → Q (.ref p) (upd H p (.lst vs)) := fun p hp => by
  have l := Le.put (w := w) (o := .lst vs) (W.free hp)
  refine fo _ _ _ _ _ k l (W.put hp n) ?_
  simp only [Rep]
  exact ⟨p, vs, rfl, upd_same, Reps.mono l _ _ R⟩
theorem fol_new {K : PySem.W.Frag} {w : Wd} {st : Sto} {H : Hp} {kk : DK} {Q : VK} {ds : List D} {vs : List V} (W : Wld K w st H) (R : Reps K w ds vs) (n : vs.length ≤ sizeLine) (k : kk (.obj st.length) (st ++ [ds])) (fo : Fol K w kk Q) :
    ∀ p, H p = none → Q (.ref p) (upd H p (.lst vs)) := fun p hp => by
  refine fo _ _ _ _ _ k (Le.addK (W.nas hp)) (W.add hp R n) ?_
  simp only [Rep]
  refine ⟨p, rfl, ?_, if_pos rfl⟩
  show (w.as ++ [p])[st.length]? = some p
  rw [← W.len, List.getElem?_concat_length]
theorem pd_tup {x1} {t : DA} (h : PDA X es t) : PD X (.Tuple es x1 pos) (dTup t) := by
  refine (pe_tup h).wk fun σ H Q ⟨w, env, st, kk, W, E, h, fo⟩ => ?_
  refine ⟨w, env, st, _, W, E, h, fun ds st1 vs w1 H1 h1 l1 W1 R1 => ?_⟩
  have n : vs.length ≤ sizeLine := by rw [R1.length]; exact line16 h1.1
  exact ⟨n, fol_tup W1 R1 n h1.2 (fo.le l1)⟩
theorem pd_lst {t : DA} (h : PDA X es t) : PD X (.List es pos) (dLst t) := by
  refine (pe_lst h).wk fun σ H Q ⟨w, env, st, kk, W, E, h, fo⟩ => ?_
  refine ⟨w, env, st, _, W, E, h, fun ds st1 vs w1 H1 h1 l1 W1 R1 => ?_⟩
  have n : vs.length ≤ sizeLine := by rw [R1.length]; exact line16 h1.1
  exact ⟨n, fol_lst W1 R1 n h1.2 (fo.le l1)⟩
theorem pd_new {t : DA} (h : PDA X es t) : PD X (.List es pos) (dNew t) := by
  refine (pe_lst h).wk fun σ H Q ⟨w, env, st, kk, W, E, h, fo⟩ => ?_
  refine ⟨w, env, st, _, W, E, h, fun ds st1 vs w1 H1 h1 l1 W1 R1 => ?_⟩
  have n : vs.length ≤ sizeLine := by rw [R1.length]; exact line16 h1.1
  exact ⟨n, fol_new W1 R1 n h1.2 (fo.le l1)⟩

/-! ### calls of defs -/
abbrev SpD := List D → Sto → DK → Prop
/-- a def's promise over data -/
def spD (K : PySem.W.Frag) (sp : SpD) : Sp := fun vs H Q _ => ∃ w st ds kk, Wld K w st H ∧ Reps K w ds vs ∧ sp ds st kk ∧ Fol K w kk Q
def dCall (sp : SpD) (t : DA) : DE := fun env st k => t env st fun ds s1 => sp ds s1 k
variable {k : Nat} {f : Addr} {fd : FuncData} {ps : List Str} {sp : SpD} {x : Str} {p : Pos}
theorem pd_call {t : DA} (F : FnG X.prog X.w X.K X.mg X.base CX0 k f fd ps (spD X.K sp)) (hr : RoomG k X.A) (hm : X.mg x = some (.ref f)) (hk : PySem.W.keepIn X.K (.ref f) = true) (hb : Binds X.K fd ps [])
    (ha : PDA X (e :: es) t) (hg : Gl X x := by rfl) (hdb : (x == ("__debug__" : Str)) = false := by decide) (he : starEach (e :: es) X.env = (false, eval e X.env) :: starEach es X.env := by rfl) (hpl : (backTo pos (starEach es X.env)).any (·.1) = false := by rfl) :
    PD X (.Call (.Name x p) (e :: es) [] pos) (dCall sp t) := by
  refine ⟨fun pins s σ H Q I ⟨w, env, st, kk, W, E, h, fo⟩ => ?_⟩
  refine wpAny_Call_Name_kw (ld_glob I hg hm ?_ hdb)
  refine PySem.W.callWith_K (h₀ := X.base) I.ok.mod.kin hk (thn (ha.run pos pins s σ H (fun vs H1 => spD X.K sp vs H1 Q E0) I ⟨w, env, st, _, W, E, h, fun ds st1 vs w1 H1 h1 l1 W1 R1 => ⟨w1, st1, ds, kk, W1, R1, h1, fo.le l1⟩⟩) fun us s1 ⟨vs, H1, I1, r, q⟩ => ⟨I1.kIn, ?_⟩) he hpl
  have hl : us.length = ps.length := r.length.symm.trans (F.len _ _ _ _ q)
  have z := hb s1 us I1.kIn (by rw [List.append_nil]; exact hl)
  rw [List.append_nil] at z
  exact run_fnG F hr pass0 I1 z r q
theorem pd_call0 (F : FnG X.prog X.w X.K X.mg X.base CX0 k f fd ps (spD X.K sp)) (hr : RoomG k X.A) (hm : X.mg x = some (.ref f)) (hk : PySem.W.keepIn X.K (.ref f) = true) (hb : Binds X.K fd ps [])
    (hg : Gl X x := by rfl) (hdb : (x == ("__debug__" : Str)) = false := by decide) : PD X (.Call (.Name x p) [] [] pos) (dCall sp dNil) := by
  refine ⟨fun pins s σ H Q I ⟨w, env, st, kk, W, E, h, fo⟩ => ?_⟩
  refine wpAny_Call_Name_kw (ld_glob I hg hm ?_ hdb)
  have q : spD X.K sp [] H Q E0 := ⟨w, st, [], kk, W, .nil, h, fo⟩
  have hl : 0 = ps.length := F.len _ _ _ _ q
  exact PySem.W.callWith_K0 I.kIn hk (run_fnG F hr pass0 I (hb s [] I.kIn hl) .nil q)

/-! ### statements -/
def dDrop (t : DE) : DS := fun D env st => t env st fun _ s1 => D.nx env s1
def dRet (t : DE) : DS := fun D env st => t env st D.rt
def dRetN : DS := fun D _ st => D.rt .non st
def dSeq (t u : DS) : DS := fun D env st => t { D with nx := u D } env st
def dPass : DS := fun D env st => D.nx env st
def dIfS (c : DT) (t u : DS) : DS := fun D env st => c env st fun b s1 => if b = true then t D env s1 else u D env s1
theorem pds_expr {t : DE} (he : PD X e t) (hs : swapsWith e none pos.line X.env = pure false := by rfl) : PDS X (.Expr e pos) (dDrop t) := by
  refine (ps_expr he hs).wk fun Ed σ H ⟨w, env, st, D, W, E, h, fn, fr⟩ => ?_
  exact ⟨w, env, st, _, W, E, h, fun d st1 v w1 H1 h1 l1 W1 R1 => fn _ _ _ _ _ h1 l1 W1 (E.mono l1)⟩
theorem pds_ret {t : DE} (he : PD X e t) : PDS X (.Return (some e) pos) (dRet t) := by
  refine (ps_ret he).wk fun Ed σ H ⟨w, env, st, D, W, E, h, fn, fr⟩ => ?_
  exact ⟨w, env, st, _, W, E, h, fr⟩
theorem pds_retN : PDS X (.Return none pos) dRetN := by
  refine ps_retN.wk fun Ed σ H ⟨w, env, st, D, W, E, h, fn, fr⟩ => ?_
  exact fr _ _ _ _ _ h (.refl _) W (by simp only [Rep])
theorem pds_pass : PDS X (.Pass pos) dPass := by
  refine ps_pass.wk fun Ed σ H ⟨w, env, st, D, W, E, h, fn, fr⟩ => ?_
  exact fn _ _ _ _ _ h (.refl _) W E
theorem pdss_nil : PDSs X [] dPass := by
  refine pss_nil.wk fun Ed σ H ⟨w, env, st, D, W, E, h, fn, fr⟩ => ?_
  exact fn _ _ _ _ _ h (.refl _) W E
theorem pdss_one {s : Stmt} {t : DS} (h : PDS X s t) : PDSs X [s] t := pss_one h
theorem pdss_cons {s : Stmt} {rest : List Stmt} {t u : DS} (h1 : PDS X s t) (h2 : PDSs X rest u) : PDSs X (s :: rest) (dSeq t u) := by
  refine (pss_cons h1 h2).wk fun Ed σ H ⟨w, env, st, D, W, E, h, fn, fr⟩ => ?_
  exact ⟨w, env, st, _, W, E, h, fun env1 st1 σ1 w1 H1 h1 l1 W1 E1 => ⟨w1, env1, st1, D, W1, E1, h1, fn.le l1, fr.le l1⟩, fr⟩
theorem pds_if {c : Expr} {xs ys : List Stmt} {tc : DT} {t u : DS} (hc : PDT X c tc) (ha : PDSs X xs t) (hb : PDSs X ys u) : PDS X (.If c xs ys pos) (dIfS tc t u) := by
  refine (ps_if hc ha hb).wk fun Ed σ H ⟨w, env, st, D, W, E, h, fn, fr⟩ => ?_
  refine ⟨w, env, st, _, W, E, h, fun c st1 w1 H1 h1 l1 W1 => ?_⟩
  cases c with
  | true =>
    rw [if_pos rfl] at h1 ⊢
    exact ⟨w1, env, st1, D, W1, E.mono l1, h1, fn.le l1, fr.le l1⟩
  | false =>
    rw [if_neg Bool.false_ne_true] at h1 ⊢
    exact ⟨w1, env, st1, D, W1, E.mono l1, h1, fn.le l1, fr.le l1⟩

/-! ### targets -/
abbrev DG := D → Env → Sto → (Env → Sto → Prop) → Prop
abbrev DGs := List D → Env → Sto → (Env → Sto → Prop) → Prop
def tDG (K : PySem.W.Frag) (g : DG) : TG := fun v σ H Q => ∃ w env st d nx, Wld K w st H ∧ EnvR K w env σ ∧ Rep K w d v ∧ g d env st nx ∧ FolN K w nx Q
def tDGs (K : PySem.W.Frag) (g : DGs) : TGs := fun vs σ H Q => ∃ w env st ds nx, Wld K w st H ∧ EnvR K w env σ ∧ Reps K w ds vs ∧ g ds env st nx ∧ FolN K w nx Q
abbrev PDG (X : Cx) (e : Expr) (g : DG) : Prop := PG X e (tDG X.K g)
abbrev PDGs (X : Cx) (e : List Expr) (g : DGs) : Prop := PGs X e (tDGs X.K g)
theorem _root_.L2.PG.wk {X : Cx} {e : Expr} {t t' : TG} (h : PG X e t) (i : ∀ v σ H Q, t' v σ H Q → t v σ H Q) : PG X e t' := ⟨fun pins s σ H v u Q I r q => h.run pins s σ H v u Q I r (i v σ H Q q)⟩
theorem _root_.L2.PGs.wk {X : Cx} {e : List Expr} {t t' : TGs} (h : PGs X e t) (i : ∀ v σ H Q, t' v σ H Q → t v σ H Q) : PGs X e t' := ⟨fun pins s σ H v u Q I r q => h.run pins s σ H v u Q I r (i v σ H Q q)⟩
def dgName (i : Nat) : DG := fun d env st k => k (env.set i (some d)) st
theorem pdg_name (i : Nat) {x : Str} (hN : X.N.Nodup) (hi : X.N[i]? = some x := by rfl) (hx : Loc X.env.scope x := by first | exact Or.inl rfl | exact Or.inr rfl) (hf : X.fn x = true ∨ X.env.scope.names.lookup x = some .local := by first | exact .inl rfl | exact .inr rfl | assumption) : PDG X (.Name x pos) (dgName i) := by
  refine L2.PG.wk (pg_name hN hi hx hf) fun v σ H Q ⟨w, env, st, d, nx, W, E, R, h, fn⟩ => ?_
  exact fn _ _ _ _ _ h (.refl _) W (E.set i R)
def dgNil : DGs := fun ds env st k => match ds with
  | [] => k env st
  | _ => False
def dgCons (g : DG) (h : DGs) : DGs := fun ds env st k => match ds with
  | d :: r => g d env st fun env' st' => h r env' st' k
  | [] => False
theorem pdgs_nil : PDGs X [] dgNil := by
  refine L2.PGs.wk pgs_nil fun v σ H Q ⟨w, env, st, ds, nx, W, E, R, h, fn⟩ => ?_
  cases ds with
  | nil => exact ⟨R.inv0, fn _ _ _ _ _ h (.refl _) W E⟩
  | cons _ _ => exact h.elim
theorem pdgs_cons {t : DG} {u : DGs} (h1 : PDG X e t) (h2 : PDGs X es u)
    (hs : (assignEach (e :: es) X.env).map (·.2) = assign e X.env :: (assignEach es X.env).map (·.2) := by rfl) : PDGs X (e :: es) (dgCons t u) := by
  refine L2.PGs.wk (pgs_cons h1 h2 hs) fun v σ H Q ⟨w, env, st, ds, nx, W, E, R, h, fn⟩ => ?_
  cases ds with
  | nil => exact h.elim
  | cons d r =>
    obtain ⟨v, vr, rfl, R1, R2⟩ := R.inv
    exact ⟨v, vr, rfl, w, env, st, d, _, W, E, R1, h, fun env1 st1 σ1 w1 H1 h1 l1 W1 E1 => ⟨w1, env1, st1, r, nx, W1, E1, Reps.mono l1 _ _ R2, h1, fn.le l1⟩⟩
def dgTup (n : Nat) (g : DGs) : DG := fun d env st k => match deref st d with
  | .tup xs => xs.length = n ∧ g xs env st k
  | _ => False
theorem pdg_tup {kk : Nat} {t : DGs} {n : Nat} (hc : X.calm = true) (h : PDGs X es t)
    (hn : (assignEach es X.env).length = n := by rfl) (hst : (assignEach es X.env).findIdx? (·.1) = none := by rfl) : PDG X (.Tuple es kk pos) (dgTup n t) := by
  refine L2.PG.wk (pg_tup hc h hn hst) fun v σ H Q ⟨w, env, st, d, nx, W, E, R, h, fn⟩ => ?_
  unfold dgTup at h
  split at h
  · rename_i xs e
    obtain ⟨a, vs, rfl, q, r, _⟩ := rep_tup W R e
    exact ⟨a, vs, rfl, q, by rw [r.length]; exact h.1, w, env, st, xs, nx, W, E, r, h.2, fn⟩
  · exact h.elim
def dAsg (t : DE) (g : DG) : DS := fun D env st => t env st fun d s1 => g d env s1 D.nx
theorem asg_in {K : PySem.W.Frag} {t : DE} {g : DG} {Ed : Ends} {σ : L2.St} {H : Hp} (h : tDS K (dAsg t g) Ed σ H) : tAsg (tD K t) (tDG K g) Ed σ H := by
  obtain ⟨w, env, st, D, W, E, h, fn, fr⟩ := h
  exact ⟨w, env, st, _, W, E, h, fun d st1 v w1 H1 h1 l1 W1 R1 => ⟨w1, env, st1, d, _, W1, E.mono l1, R1, h1, fn.le l1⟩⟩
theorem pds_asg {tg : Expr} {t : DE} {g : DG} (he : PD X e t) (hg : PDG X tg g) (hs : swapsWithSole [tg] e pos.line X.env = pure false := by rfl) (hw : swappedStores [tg] e X.env = pure none := by rfl)
    (h1 : (assignEach [tg] X.env).map (·.2) = [assign tg X.env] := by rfl) : PDS X (.Assign [tg] e pos) (dAsg t g) :=
  (ps_asg he hg hs hw h1).wk fun _ _ _ h => asg_in h
theorem pds_set (i : Nat) {x : Str} {t : DE} {pos' : Pos} (hN : X.N.Nodup) (he : PD X e t) (hi : X.N[i]? = some x := by rfl) (hx : Loc X.env.scope x := by first | exact Or.inl rfl | exact Or.inr rfl) (hs : swapsWith e (some (.Name x pos')) pos.line X.env = pure false := by rfl) (hf : X.fn x = true ∨ X.env.scope.names.lookup x = some .local := by first | exact .inl rfl | exact .inr rfl | assumption) :
    PDS X (.Assign [.Name x pos'] e pos) (dAsg t (dgName i)) := by
  refine (ps_set hN hi hx he hs hf).wk fun Ed σ H ⟨w, env, st, D, W, E, h, fn, fr⟩ => ?_
  exact ⟨w, env, st, _, W, E, h, fun d st1 v w1 H1 h1 l1 W1 R1 => fn _ _ _ _ _ h1 l1 W1 ((E.mono l1).set i R1)⟩
/-- a, b = x, y with plain local names: stored from the right -/
def dPar (i j : Nat) (t : DA) : DS := fun D env st => t env st fun ds s1 => match ds with
  | [d, e] => D.nx ((env.set i (some d)).set j (some e)) s1
  | _ => False
theorem pds_par (i j : Nat) {x y : Str} {t : DA} {px py pt : Pos} {kt k2 pt2} (hc : X.calm = true) (hN : X.N.Nodup) (ha : PDA X [a, b] t) (hi : X.N[i]? = some x := by rfl) (hj : X.N[j]? = some y := by rfl) (hij : i ≠ j := by decide)
    (hx : X.env.scope.names.lookup x = some .local := by rfl) (hy : X.env.scope.names.lookup y = some .local := by rfl)
    (hw : swappedStores [.Tuple [.Name x px, .Name y py] kt pt] (.Tuple [a, b] k2 pt2) X.env = pure (some [x, y]) := by rfl)
    (hs : swapsWithSole [.Tuple [.Name x px, .Name y py] kt pt] (.Tuple [a, b] k2 pt2) pos.line X.env = pure false := by rfl) :
    PDS X (.Assign [.Tuple [.Name x px, .Name y py] kt pt] (.Tuple [a, b] k2 pt2) pos) (dPar i j t) := by
  refine (ps_par hc hN hi hj hij hx hy ha hw hs).wk fun Ed σ H ⟨w, env, st, D, W, E, h, fn, fr⟩ => ?_
  refine ⟨w, env, st, _, W, E, h, fun ds st1 vs w1 H1 h1 l1 W1 R1 => ?_⟩
  match ds, h1, R1 with
  | [d, e], h1, R1 =>
    obtain ⟨v, r, rfl, Rv, R2⟩ := R1.inv
    obtain ⟨u, r', rfl, Ru, R3⟩ := R2.inv
    rw [R3.inv0]
    exact ⟨v, u, rfl, fn _ _ _ _ _ h1 l1 W1 (((E.mono l1).set i Rv).set j Ru)⟩
  | [], h1, _ => exact h1.elim
  | [_], h1, _ => exact h1.elim
  | _ :: _ :: _ :: _, h1, _ => exact h1.elim
end
end DL

/-! a tuple taken once -/
namespace DL
open PySem PySem.Spec PyProof.Rows L2
theorem tupOnce (a : Addr) (vs : Array Value) (n : Nat) (dd : Option Addr) (sl : Array (Option Value)) (u : Tok) :
    Meets (Builtin.«tuple.__mul__» ⟨[.ref a, .int 1 u], []⟩) (fun _ R z => z.heap.get? a = some { cls := .type "tuple", dict := dd, data := .seq vs n, slots := sl } ∧ R (.ok (.ret (Value.ref a))) z) :=
  .of_wp fun pr w A R z hh => by
    obtain ⟨hp, gs, dr, tk, os⟩ := z
    obtain ⟨hl, hh⟩ := hh
    have f1 := AutoSeq1.idx_int
    have c1 : (vs.isEmpty || (1 : Int) == 1) = true := by simp
    wp_walk using wpAny_loadPart' hl
    exact ⟨_, rfl, hh⟩
def rOnceT (K : PySem.W.Frag) : R2 := fun x y H Q => ∃ l xs, x = .ref l ∧ y = .int 1 ∧ SqT K H l xs ∧ Q (.ref l) H
theorem op_onceT {X : Cx} : OpR X (binaryOp .Mult) (rOnceT X.K) := by
  intro pins s σ H x y v u Q I rx ry h
  obtain ⟨l, xs, rfl, rfl, hT, q⟩ := h
  cases rx
  obtain ⟨t, rfl⟩ := ry
  obtain ⟨its, r, ⟨⟨cls, dd, data, sl⟩, ho, hc, n, hd⟩, hs⟩ := I.tuple hT
  simp only at hc hd
  subst hc hd
  refine wpAny_binaryOp_repeat_ref (T := "tuple") (U := "int") (by decide) ⟨_, ho, rfl⟩ (fun s' => typeIs_int s' 1 t) noFill_tuple_mul F.fills_int_mul F.slot_int_rmul repeat_tuple F.slot_int_index.lookup
    (call_meets F.slot_int_rmul (typeIs_int s 1 t) F.entry_int_rmul (F.args_int_rmul_2 _ _) (int_rmul_tuple 1 t l its.toArray n dd sl)
      ⟨ho, rfl, ⟨_, ho, rfl⟩, call_meets F.slot_tuple_mul ⟨_, ho, rfl⟩ F.entry_tuple_mul (F.args_tuple_mul_2 _ _) (tupOnce l its.toArray n dd sl t) ⟨ho, ?_⟩⟩)
  exact ⟨.ref l, H, I, rfl, q⟩
end DL

namespace DL
open PySem PySem.Spec PyProof.Rows L2
/-! ### operators by data -/
def MulOk (a b : Int) : Prop := (-(2 ^ 64) < a ∧ a < 2 ^ 64) ∨ (-(2 ^ 64) < b ∧ b < 2 ^ 64) ∨ a.natAbs.log2 + b.natAbs.log2 < 1000000
def DivOk (b : Int) : Prop := 0 < b ∧ b.natAbs.log2 < 9000
def PowOk (a b : Int) : Prop := 0 ≤ b ∧ b ≤ 1000000 ∧ a.natAbs < 2 ^ 64
def addD : F2 := fun d e st k => match d, e with
  | .int a, .int b => k (.int (a + b)) st
  | .int a, .bl b => k (.int (a + b2i b)) st
  | .bl a, .int b => k (.int (b2i a + b)) st
  | .str a, .str b => a.length + b.length ≤ 16777216 ∧ k (.str (a ++ b)) st
  | .tup a, .tup b => a.length + b.length ≤ 16777216 ∧ k (.tup (a ++ b)) st
  | d, e => match derefM st d, derefM st e with
    | some a, some b => a.length + b.length ≤ 16777216 ∧ k (.lst (a ++ b)) st
    | _, _ => False
def subD : F2 := fun d e st k => match d, e with
  | .int a, .int b => k (.int (a - b)) st
  | .int a, .bl b => k (.int (a - b2i b)) st
  | .bl a, .int b => k (.int (b2i a - b)) st
  | _, _ => False
def mulD : F2 := fun d e st k => match d, e with
  | .int a, .int b => MulOk a b ∧ k (.int (a * b)) st
  | .tup a, .int b => a ≠ [] ∧ 1 ≤ b ∧ b ≤ 1000 ∧ a.length ≤ 1000 ∧ k (.tup (List.replicate b.toNat a).flatten) st
  | d, .int b => match derefM st d with
    | some a => -(2 ^ 63) ≤ b ∧ b < 2 ^ 63 ∧ a.length * b.toNat ≤ 16777216 ∧ k (.lst (List.replicate b.toNat a).flatten) st
    | none => False
  | _, _ => False
def divD : F2 := fun d e st k => match d, e with
  | .int a, .int b => DivOk b ∧ k (.int (a / b)) st
  | _, _ => False
def modD : F2 := fun d e st k => match d, e with
  | .int a, .int b => 0 < b ∧ k (.int (a % b)) st
  | _, _ => False
def powD : F2 := fun d e st k => match d, e with
  | .int a, .int b => PowOk a b ∧ k (.int (a ^ b.toNat)) st
  | _, _ => False
def negD : F1 := fun d st k => match d with
  | .int a => k (.int (-a)) st
  | _ => False

section
variable {X : Cx}
theorem rep_int {K : PySem.W.Frag} {w : Wd} {a : Int} : Rep K w (.int a) (.int a) := by simp only [Rep]
theorem rep_bl {K : PySem.W.Frag} {w : Wd} {a : Bool} : Rep K w (.bl a) (.bl a) := by simp only [Rep]
theorem rep_str {K : PySem.W.Frag} {w : Wd} {a : Str} : Rep K w (.str a) (.str a) := by simp only [Rep]
theorem rep_non {K : PySem.W.Frag} {w : Wd} : Rep K w .non .non := by simp only [Rep]
theorem OpR.wk {f : Value → Value → Sem Value} {r r' : R2} (h : OpR X f r) (i : ∀ x y H Q, r' x y H Q → r x y H Q) : OpR X f r' := fun pins s σ H x y v u Q I rx ry q => h pins s σ H x y v u Q I rx ry (i x y H Q q)
/-- a rule by cases of the data -/
theorem OpR.by_ {f : Value → Value → Sem Value} {g : F2}
    (h : ∀ (x y : V) (H : Hp) (Q : VK) (w : Wd) (st : Sto) (d e : D) (kk : DK), Wld X.K w st H → Rep X.K w d x → Rep X.K w e y → g d e st kk → Fol X.K w kk Q → ∃ r : R2, OpR X f r ∧ r x y H Q) : OpR X f (rD X.K g) :=
  fun pins s σ H x y v u Q I rx ry ⟨w, st, d, e, kk, W, R1, R2, q, fo⟩ => by
    obtain ⟨r, hr, q⟩ := h x y H Q w st d e kk W R1 R2 q fo
    exact hr pins s σ H x y v u Q I rx ry q
theorem cat_lists {w : Wd} {st : Sto} {H : Hp} {d e : D} {x y : V} {kk : DK} {Q : VK} {a b : List D} (W : Wld X.K w st H) (R1 : Rep X.K w d x) (R2 : Rep X.K w e y) (h1 : derefM st d = some a) (h2 : derefM st e = some b)
    (n : a.length + b.length ≤ 16777216) (k : kk (.lst (a ++ b)) st) (fo : Fol X.K w kk Q) : ∃ r : L2.R2, OpR X (binaryOp .Add) r ∧ r x y H Q := by
  obtain ⟨p, vs, rfl, q1, r1, _⟩ := rep_lstM W R1 h1
  obtain ⟨p2, us, rfl, q2, r2, _⟩ := rep_lstM W R2 h2
  have n' : vs.length + us.length ≤ sizeLine := by rw [r1.length, r2.length]; exact line16 n
  exact ⟨rCat, op_cat, p, p2, vs, us, rfl, rfl, q1, q2, n', fol_lst W (r1.append r2) (by rw [List.length_append]; exact n') k fo⟩
theorem op_add_bi : OpR X (binaryOp .Add) (fun x y H Q => ∃ k i, x = .bl k ∧ y = .int i ∧ Q (.int (b2i k + i)) H) := by
  rintro pins s σ H x y v u Q I rx ry ⟨k, i, rfl, rfl, q⟩
  obtain ⟨t, rfl⟩ := ry
  cases rx
  exact PySem.IntBool.add_bool_int ⟨.int (b2i k + i), H, I.tok _, ⟨_, rfl⟩, q⟩
theorem op_sub_bi : OpR X (binaryOp .Sub) (fun x y H Q => ∃ k i, x = .bl k ∧ y = .int i ∧ Q (.int (b2i k - i)) H) := by
  rintro pins s σ H x y v u Q I rx ry ⟨k, i, rfl, rfl, q⟩
  obtain ⟨t, rfl⟩ := ry
  cases rx
  exact PySem.IntBool.sub_bool_int ⟨.int (b2i k - i), H, I.tok _, ⟨_, rfl⟩, q⟩
theorem op_sub_ib : OpR X (binaryOp .Sub) (fun x y H Q => ∃ i k, x = .int i ∧ y = .bl k ∧ Q (.int (i - b2i k)) H) := by
  rintro pins s σ H x y v u Q I rx ry ⟨i, k, rfl, rfl, q⟩
  obtain ⟨t, rfl⟩ := rx
  cases ry
  exact PySem.IntBool.sub_int_bool ⟨.int (i - b2i k), H, I.tok _, ⟨_, rfl⟩, q⟩
theorem dop_add : OpR X (binaryOp .Add) (rD X.K addD) := by
  refine OpR.by_ fun x y H Q w st d e kk W R1 R2 q fo => ?_
  unfold addD at q
  split at q
  · rename_i a b
    simp only [Rep] at R1 R2
    exact ⟨_, op_add, a, b, R1, R2, fo.id q W rep_int⟩
  · rename_i a b
    simp only [Rep] at R1 R2
    exact ⟨_, op_add_ib, a, b, R1, R2, fo.id q W rep_int⟩
  · rename_i a b
    simp only [Rep] at R1 R2
    exact ⟨_, op_add_bi, a, b, R1, R2, fo.id q W rep_int⟩
  · rename_i a b
    simp only [Rep] at R1 R2
    exact ⟨_, op_add_str, a, b, R1, R2, line16 q.1, fo.id q.2 W rep_str⟩
  · rename_i a b
    obtain ⟨p, vs, rfl, q1, r1, _⟩ := rep_tup W R1 rfl
    obtain ⟨p2, us, rfl, q2, r2, _⟩ := rep_tup W R2 rfl
    have n' : vs.length + us.length ≤ sizeLine := by rw [r1.length, r2.length]; exact line16 q.1
    refine ⟨rCatA X.K, op_catA, p, p2, vs, us, rfl, rfl, q1, q2, n', fun e => ?_, fun _ e => ?_, fun _ _ => fol_tup W (r1.append r2) (by rw [List.length_append]; exact n') q.2 fo⟩
    · have ea : a = [] := by
        have := r1.length
        rw [e] at this
        exact List.eq_nil_of_length_eq_zero this.symm
      subst ea
      exact fo.id q.2 W R2
    · have eb : b = [] := by
        have := r2.length
        rw [e] at this
        exact List.eq_nil_of_length_eq_zero this.symm
      subst eb
      refine fo.id q.2 W ?_
      rw [List.append_nil]
      exact R1
  · split at q
    · rename_i a b h1 h2
      exact cat_lists W R1 R2 h1 h2 q.1 q.2 fo
    · exact q.elim
theorem MulOk.ok {a b : Int} (h : MulOk a b) : IntMulOk a b := by
  rcases h with h | h | h
  · exact CMul.ok (.inl h)
  · exact CMul.ok (.inr h)
  · exact CMulW.ok h
theorem op_mulD : OpR X (binaryOp .Mult) (rI MulOk fun i j => .int (i * j)) := opI fun _ _ _ _ _ _ _ hc q => mul_int q hc.ok
theorem dop_mul : OpR X (binaryOp .Mult) (rD X.K mulD) := by
  refine OpR.by_ fun x y H Q w st d e kk W R1 R2 q fo => ?_
  unfold mulD at q
  split at q
  · simp only [Rep] at R1 R2
    exact ⟨_, op_mulD, _, _, R1, R2, q.1, fo.id q.2 W rep_int⟩
  · rename_i a b
    obtain ⟨p, vs, rfl, q1, r1, _⟩ := rep_tup W R1 rfl
    simp only [Rep] at R2
    obtain ⟨ne, h1, h2, h3, q⟩ := q
    have nv : vs ≠ [] := fun z => ne (by
      have := r1.length
      rw [z] at this
      exact List.eq_nil_of_length_eq_zero this.symm)
    by_cases hb : b = 1
    · subst hb
      refine ⟨_, op_onceT, p, vs, rfl, R2, q1, fo.id q W ?_⟩
      have e : (List.replicate (1 : Int).toNat a).flatten = a := by
        show (List.replicate 1 a).flatten = a
        simp
      rw [e]
      exact R1
    have h1 : 2 ≤ b := by omega
    refine ⟨rRepT X.K, op_repT, p, b, vs, rfl, R2, q1, nv, h1, h2, by rw [r1.length]; exact h3, ?_⟩
    refine fol_tup W (r1.rep b.toNat) ?_ q fo
    rw [PyProof.Rows.lm_len_rep_flat, sizeLine_eq, r1.length]
    have a1 : b.toNat * a.length ≤ 1000 * 1000 := Nat.mul_le_mul (by omega) h3
    omega
  · split at q
    · rename_i a ha
      simp only [Rep] at R2
      obtain ⟨p, vs, rfl, q1, r1, _⟩ := rep_lstM W R1 ha
      obtain ⟨h1, h2, h3, q⟩ := q
      have n' := line16 h3
      rw [← r1.length] at n'
      refine ⟨rRep, op_rep, p, _, vs, rfl, R2, q1, h1, h2, n', fol_lst W (r1.rep _) ?_ q fo⟩
      rw [PyProof.Rows.lm_len_rep_flat, Nat.mul_comm]
      exact n'
    · exact q.elim
  · exact q.elim
theorem dop_sub : OpR X (binaryOp .Sub) (rD X.K subD) := by
  refine OpR.by_ fun x y H Q w st d e kk W R1 R2 q fo => ?_
  unfold subD at q
  split at q
  · simp only [Rep] at R1 R2
    exact ⟨_, op_sub, _, _, R1, R2, fo.id q W rep_int⟩
  · simp only [Rep] at R1 R2
    exact ⟨_, op_sub_ib, _, _, R1, R2, fo.id q W rep_int⟩
  · simp only [Rep] at R1 R2
    exact ⟨_, op_sub_bi, _, _, R1, R2, fo.id q W rep_int⟩
  · exact q.elim
theorem dop_div : OpR X (binaryOp .FloorDiv) (rD X.K divD) := by
  refine OpR.by_ fun x y H Q w st d e kk W R1 R2 q fo => ?_
  unfold divD at q
  split at q
  · simp only [Rep] at R1 R2
    exact ⟨_, op_fdivW, _, _, R1, R2, q.1, fo.id q.2 W rep_int⟩
  · exact q.elim
theorem dop_mod : OpR X (binaryOp .Mod) (rD X.K modD) := by
  refine OpR.by_ fun x y H Q w st d e kk W R1 R2 q fo => ?_
  unfold modD at q
  split at q
  · simp only [Rep] at R1 R2
    exact ⟨_, op_mod, _, _, R1, R2, q.1, fo.id q.2 W rep_int⟩
  · exact q.elim
theorem dop_pow : OpR X (binaryOp .Pow) (rD X.K powD) := by
  refine OpR.by_ fun x y H Q w st d e kk W R1 R2 q fo => ?_
  unfold powD at q
  split at q
  · simp only [Rep] at R1 R2
    exact ⟨_, op_pow, _, _, R1, R2, q.1, fo.id q.2 W rep_int⟩
  · exact q.elim
theorem dun_neg : UnR X (unaryOp .USub) (rD1 X.K negD) := by
  rintro pins s σ H x v Q I rx ⟨w, st, d, kk, W, R1, q, fo⟩
  unfold negD at q
  split at q
  · simp only [Rep] at R1
    exact un_neg pins s σ H x v Q I rx ⟨_, R1, fo.id q W rep_int⟩
  · exact q.elim

/-! ### comparisons -/
mutual
def eqD : D → D → Bool
  | .non, .non => true
  | .bl a, .bl b => a == b
  | .bl a, .int j => (if a then 1 else 0) == j
  | .int i, .bl b => i == (if b then 1 else 0)
  | .int i, .int j => i == j
  | .str x, .str y => x == y
  | .lst xs, .lst ys => eqDs xs ys
  | .tup xs, .tup ys => eqDs xs ys
  | _, _ => false
def eqDs : List D → List D → Bool
  | [], [] => true
  | x :: xs, y :: ys => eqD x y && eqDs xs ys
  | _, _ => false
end
mutual
/-- data that == goes through: no list of the store within, so deep at most -/
def okD : Nat → D → Bool
  | _, .non => true
  | _, .bl _ => true
  | _, .int _ => true
  | _, .str x => PyData.strOk x
  | 0, .lst _ => false
  | n + 1, .lst xs => okDs n xs
  | 0, .tup _ => false
  | n + 1, .tup xs => okDs n xs
  | _, .klst _ => false
  | _, .obj _ => false
  | _, .dic _ _ => false
  | _, .fdic _ _ => false
  | _, .gtup _ => false
def okDs : Nat → List D → Bool
  | _, [] => true
  | n, x :: xs => okD n x && okDs n xs
end
mutual
def toP : D → PyData
  | .non => .none
  | .bl b => .bool b
  | .int i => .int i
  | .str x => .str x
  | .lst xs => .list (toPs xs)
  | .tup xs => .tuple (toPs xs)
  | .klst _ => .none
  | .obj _ => .none
  | .dic _ _ => .none
  | .fdic _ _ => .none
  | .gtup _ => .none
def toPs : List D → List PyData
  | [] => []
  | x :: xs => toP x :: toPs xs
end
mutual
theorem eqv_toP : ∀ (n m : Nat) (a b : D), okD n a = true → okD m b = true → PyData.eqv (toP a) (toP b) = eqD a b
  | n, m, .lst xs, .lst ys, h, g => by
    cases n with
    | zero => simp [okD] at h
    | succ n =>
      cases m with
      | zero => simp [okD] at g
      | succ m =>
        simp only [okD] at h g
        simp only [toP, PyData.eqv, eqD]
        exact eqv_toPs n m xs ys h g
  | n, m, .tup xs, .tup ys, h, g => by
    cases n with
    | zero => simp [okD] at h
    | succ n =>
      cases m with
      | zero => simp [okD] at g
      | succ m =>
        simp only [okD] at h g
        simp only [toP, PyData.eqv, eqD]
        exact eqv_toPs n m xs ys h g
  | n, m, .klst xs, _, h, g => by cases n <;> simp [okD] at h
  | n, m, .obj xs, _, h, g => by cases n <;> simp [okD] at h
  | n, m, .dic _ _, _, h, g => by cases n <;> simp [okD] at h
  | n, m, .fdic _ _, _, h, g => by cases n <;> simp [okD] at h
  | n, m, .gtup _, _, h, g => by cases n <;> simp [okD] at h
  | n, m, _, .klst xs, h, g => by cases m <;> simp [okD] at g
  | n, m, _, .obj xs, h, g => by cases m <;> simp [okD] at g
  | n, m, _, .dic _ _, h, g => by cases m <;> simp [okD] at g
  | n, m, _, .fdic _ _, h, g => by cases m <;> simp [okD] at g
  | n, m, _, .gtup _, h, g => by cases m <;> simp [okD] at g
  | n, m, .non, b, h, g => by cases b <;> (first | (simp [toP, PyData.eqv, eqD]; done) | (cases m <;> simp [okD] at g))
  | n, m, .bl _, b, h, g => by cases b <;> (first | (simp [toP, PyData.eqv, eqD]; done) | (cases m <;> simp [okD] at g))
  | n, m, .int _, b, h, g => by cases b <;> (first | (simp [toP, PyData.eqv, eqD]; done) | (cases m <;> simp [okD] at g))
  | n, m, .str _, b, h, g => by cases b <;> (first | (simp [toP, PyData.eqv, eqD]; done) | (cases m <;> simp [okD] at g))
  | n, m, .lst _, .non, h, g => by simp [toP, PyData.eqv, eqD]
  | n, m, .lst _, .bl _, h, g => by simp [toP, PyData.eqv, eqD]
  | n, m, .lst _, .int _, h, g => by simp [toP, PyData.eqv, eqD]
  | n, m, .lst _, .str _, h, g => by simp [toP, PyData.eqv, eqD]
  | n, m, .lst _, .tup _, h, g => by simp [toP, PyData.eqv, eqD]
  | n, m, .tup _, .non, h, g => by simp [toP, PyData.eqv, eqD]
  | n, m, .tup _, .bl _, h, g => by simp [toP, PyData.eqv, eqD]
  | n, m, .tup _, .int _, h, g => by simp [toP, PyData.eqv, eqD]
  | n, m, .tup _, .str _, h, g => by simp [toP, PyData.eqv, eqD]
  | n, m, .tup _, .lst _, h, g => by simp [toP, PyData.eqv, eqD]
theorem eqv_toPs : ∀ (n m : Nat) (a b : List D), okDs n a = true → okDs m b = true → PyData.eqvAll (toPs a) (toPs b) = eqDs a b
  | n, m, [], [], _, _ => by simp [toPs, PyData.eqvAll, eqDs]
  | n, m, [], _ :: _, _, _ => by simp [toPs, PyData.eqvAll, eqDs]
  | n, m, _ :: _, [], _, _ => by simp [toPs, PyData.eqvAll, eqDs]
  | n, m, x :: xs, y :: ys, h, g => by
    simp only [okDs, Bool.and_eq_true] at h g
    simp only [toPs, PyData.eqvAll, eqDs]
    rw [eqv_toP n m x y h.1 g.1, eqv_toPs n m xs ys h.2 g.2]
end
mutual
theorem shape_toP : ∀ (n : Nat) (a : D), okD n a = true → (toP a).canLay0 = true ∧ (toP a).depth ≤ n
  | n, .non, _ => by simp [toP, PyData.canLay0, PyData.depth]
  | n, .bl _, _ => by simp [toP, PyData.canLay0, PyData.depth]
  | n, .int _, _ => by simp [toP, PyData.canLay0, PyData.depth]
  | n, .str x, h => by
    have h' : PyData.strOk x = true := by cases n <;> simpa only [okD] using h
    simp [toP, PyData.canLay0, PyData.depth, h']
  | n, .klst xs, h => by cases n <;> simp [okD] at h
  | n, .obj xs, h => by cases n <;> simp [okD] at h
  | n, .dic _ _, h => by cases n <;> simp [okD] at h
  | n, .fdic _ _, h => by cases n <;> simp [okD] at h
  | n, .gtup _, h => by cases n <;> simp [okD] at h
  | 0, .lst xs, h => by simp [okD] at h
  | n + 1, .lst xs, h => by
    simp only [okD] at h
    obtain ⟨h1, h2⟩ := shape_toPs n xs h
    simp only [toP, PyData.canLay0, PyData.depth]
    exact ⟨h1, by omega⟩
  | 0, .tup xs, h => by simp [okD] at h
  | n + 1, .tup xs, h => by
    simp only [okD] at h
    obtain ⟨h1, h2⟩ := shape_toPs n xs h
    simp only [toP, PyData.canLay0, PyData.depth]
    exact ⟨h1, by omega⟩
theorem shape_toPs : ∀ (n : Nat) (a : List D), okDs n a = true → PyData.canLayAll0 (toPs a) = true ∧ PyData.depthAll (toPs a) ≤ n
  | n, [], _ => by simp [toPs, PyData.canLayAll0, PyData.depthAll]
  | n, x :: xs, h => by
    simp only [okDs, Bool.and_eq_true] at h
    obtain ⟨h1, h2⟩ := shape_toP n x h.1
    obtain ⟨h3, h4⟩ := shape_toPs n xs h.2
    simp only [toPs, PyData.canLayAll0, PyData.depthAll, Bool.and_eq_true]
    exact ⟨⟨h1, h3⟩, Nat.max_le.mpr ⟨h2, h4⟩⟩
end
mutual
theorem dp_of {K : PySem.W.Frag} {w : Wd} {H : Hp} (s : Same w.G H) : ∀ (n : Nat) (a : D) (v : V), okD n a = true → Rep K w a v → Dp K H v (toP a)
  | n, .non, v, _, R => by
    simp only [Rep] at R
    subst R
    simp only [toP]
    exact .non
  | n, .bl _, v, _, R => by
    simp only [Rep] at R
    subst R
    simp only [toP]
    exact .bl _
  | n, .int _, v, _, R => by
    simp only [Rep] at R
    subst R
    simp only [toP]
    exact .int _
  | n, .str _, v, _, R => by
    simp only [Rep] at R
    subst R
    simp only [toP]
    exact .str _
  | n, .klst xs, _, h, _ => by cases n <;> simp [okD] at h
  | n, .obj xs, _, h, _ => by cases n <;> simp [okD] at h
  | n, .dic _ _, _, h, _ => by cases n <;> simp [okD] at h
  | n, .fdic _ _, _, h, _ => by cases n <;> simp [okD] at h
  | n, .gtup _, _, h, _ => by cases n <;> simp [okD] at h
  | 0, .lst xs, _, h, _ => by simp [okD] at h
  | n + 1, .lst xs, v, h, R => by
    simp only [okD] at h
    simp only [Rep] at R
    obtain ⟨a, vs, rfl, q, r⟩ := R
    simp only [toP]
    exact .lst (.of (s _ _ q)) (dps_of s n xs vs h r)
  | 0, .tup xs, _, h, _ => by simp [okD] at h
  | n + 1, .tup xs, v, h, R => by
    simp only [okD] at h
    simp only [Rep] at R
    obtain ⟨a, vs, rfl, q, r⟩ := R
    simp only [toP]
    exact .tup (.of (s _ _ q)) (dps_of s n xs vs h r)
theorem dps_of {K : PySem.W.Frag} {w : Wd} {H : Hp} (s : Same w.G H) : ∀ (n : Nat) (a : List D) (vs : List V), okDs n a = true → Reps K w a vs → DpAll K H vs (toPs a)
  | n, [], vs, _, R => by
    rw [R.inv0]
    simp only [toPs]
    exact .nil
  | n, x :: xs, vs, h, R => by
    simp only [okDs, Bool.and_eq_true] at h
    obtain ⟨v, r, rfl, R1, R2⟩ := R.inv
    simp only [toPs]
    exact .cons (dp_of s n x v h.1 R1) (dps_of s n xs r h.2 R2)
end
theorem dp_deref {K : PySem.W.Frag} {w : Wd} {st : Sto} {H : Hp} {d : D} {v : V} (W : Wld K w st H) (R : Rep K w d v) (ok : okD 60 (deref st d) = true) : Dp K H v (toP (deref st d)) := by
  cases e : deref st d with
  | lst xs =>
    obtain ⟨a, vs, rfl, q, r, _⟩ := rep_lst W R e
    rw [e] at ok
    simp only [okD] at ok
    simp only [toP]
    exact .lst q (dps_of W.same 59 xs vs ok r)
  | obj i =>
    rw [e] at ok
    simp [okD] at ok
  | tup xs =>
    obtain ⟨a, vs, rfl, q, r, _⟩ := rep_tup W R e
    rw [e] at ok
    simp only [okD] at ok
    simp only [toP]
    exact .tup q (dps_of W.same 59 xs vs ok r)
  | _ =>
    rw [e] at ok
    have z := deref_self e (fun _ z => by cases z) (fun _ z => by cases z)
    first
      | (rw [z] at R; exact dp_of W.same 60 _ v ok R)
      | (simp [okD] at ok)
def eqOp (neg : Bool) : F2 := fun d e st k => okD 60 (deref st d) = true ∧ okD 60 (deref st e) = true ∧ k (.bl (if neg then !eqD (deref st d) (deref st e) else eqD (deref st d) (deref st e))) st
theorem shaped_of {a : D} (h : okD 60 a = true) : SeqAt.shaped (toP a) = true := by
  obtain ⟨h1, h2⟩ := shape_toP 60 a h
  unfold SeqAt.shaped
  rw [h1, decide_eq_true (by omega)]
  rfl
theorem dop_eq (hu : X.A.units + 64 < cLine) : OpR X (compareOp .Eq) (rD X.K (eqOp false)) := by
  refine OpR.by_ fun x y H Q w st d e kk W R1 R2 q fo => ?_
  obtain ⟨h1, h2, q⟩ := q
  refine ⟨rEqD X.K, op_eqD hu, _, _, dp_deref W R1 h1, dp_deref W R2 h2, shaped_of h1, shaped_of h2, ?_⟩
  rw [eqv_toP 60 60 _ _ h1 h2]
  exact fo.id q W rep_bl
theorem dop_ne (hu : X.A.units + 64 < cLine) : OpR X (compareOp .NotEq) (rD X.K (eqOp true)) := by
  refine OpR.by_ fun x y H Q w st d e kk W R1 R2 q fo => ?_
  obtain ⟨h1, h2, q⟩ := q
  refine ⟨rNeD X.K, op_neD hu, _, _, dp_deref W R1 h1, dp_deref W R2 h2, shaped_of h1, shaped_of h2, ?_⟩
  rw [eqv_toP 60 60 _ _ h1 h2]
  exact fo.id q W rep_bl
def cmpI (p : Int → Int → Bool) : F2 := fun d e st k => match d, e with
  | .int a, .int b => k (.bl (p a b)) st
  | _, _ => False
theorem dop_cmpI {op : CmpOp} {p : Int → Int → Bool} (h : OpR X (compareOp op) (rI0 fun i j => .bl (p i j))) : OpR X (compareOp op) (rD X.K (cmpI p)) := by
  refine OpR.by_ fun x y H Q w st d e kk W R1 R2 q fo => ?_
  unfold cmpI at q
  split at q
  · simp only [Rep] at R1 R2
    exact ⟨_, h, _, _, R1, R2, fo.id q W rep_bl⟩
  · exact q.elim
theorem dop_lt : OpR X (compareOp .Lt) (rD X.K (cmpI fun i j => decide (i < j))) := dop_cmpI op_lt
theorem dop_le : OpR X (compareOp .LtE) (rD X.K (cmpI fun i j => decide (i ≤ j))) := dop_cmpI op_le
theorem dop_gt : OpR X (compareOp .Gt) (rD X.K (cmpI fun i j => decide (j < i))) := dop_cmpI op_gt
theorem dop_ge : OpR X (compareOp .GtE) (rD X.K (cmpI fun i j => decide (j ≤ i))) := dop_cmpI op_ge
def isNon : D → Bool
  | .non => true
  | _ => false
def isOp (neg : Bool) : F2 := fun d e st k => match e with
  | .non => k (.bl (if neg then !isNon d else isNon d)) st
  | .bl b => match d with
    | .bl a => k (.bl (if neg then !(a == b) else a == b)) st
    | _ => False
  | _ => False
theorem op_isB {X : Cx} : OpR X (compareOp .Is) (fun x y H Q => ∃ a b, x = .bl a ∧ y = .bl b ∧ Q (.bl (a == b)) H) := by
  rintro pins s σ H x y v u Q I rx ry ⟨a, b, rfl, rfl, q⟩
  cases (show v = Value.bool a from rx)
  cases (show u = Value.bool b from ry)
  exact wpAny_is_plain (by cases a <;> cases b <;> rfl) (fin_bl I q (by cases a <;> cases b <;> rfl))
theorem op_notB {X : Cx} : OpR X (compareOp .IsNot) (fun x y H Q => ∃ a b, x = .bl a ∧ y = .bl b ∧ Q (.bl (!(a == b))) H) := by
  rintro pins s σ H x y v u Q I rx ry ⟨a, b, rfl, rfl, q⟩
  cases (show v = Value.bool a from rx)
  cases (show u = Value.bool b from ry)
  exact wpAny_isNot_plain (by cases a <;> cases b <;> rfl) (fin_bl I q (by cases a <;> cases b <;> rfl))
theorem isNon_rep {K : PySem.W.Frag} {w : Wd} {d : D} {v : V} (R : Rep K w d v) : decide (v = .non) = isNon d := by
  cases d with
  | non => simp only [Rep] at R; subst R; rfl
  | bl _ => simp only [Rep] at R; subst R; rfl
  | int _ => simp only [Rep] at R; subst R; rfl
  | str _ => simp only [Rep] at R; subst R; rfl
  | lst _ => simp only [Rep] at R; obtain ⟨_, _, rfl, _⟩ := R; rfl
  | klst _ => simp only [Rep] at R; obtain ⟨_, _, rfl, _⟩ := R; rfl
  | tup _ => simp only [Rep] at R; obtain ⟨_, _, rfl, _⟩ := R; rfl
  | obj _ => simp only [Rep] at R; obtain ⟨_, rfl, _⟩ := R; rfl
  | dic _ _ => simp only [Rep] at R; obtain ⟨_, rfl, _⟩ := R; rfl
  | fdic t _ => cases t <;> (simp only [Rep] at R; obtain ⟨_, _, rfl, _⟩ := R; rfl)
  | gtup _ => simp only [Rep] at R; obtain ⟨_, _, rfl, _⟩ := R; rfl
theorem dop_is : OpR X (compareOp .Is) (rD X.K (isOp false)) := by
  refine OpR.by_ fun x y H Q w st d e kk W R1 R2 q fo => ?_
  unfold isOp at q
  split at q
  · simp only [Rep] at R2
    refine ⟨_, op_isN, R2, ?_⟩
    rw [isNon_rep R1]
    exact fo.id q W rep_bl
  · split at q
    · simp only [Rep] at R1 R2
      exact ⟨_, op_isB, ⟨_, _, R1, R2, fo.id q W rep_bl⟩⟩
    · exact q.elim
  · exact q.elim
theorem dop_isnot : OpR X (compareOp .IsNot) (rD X.K (isOp true)) := by
  refine OpR.by_ fun x y H Q w st d e kk W R1 R2 q fo => ?_
  unfold isOp at q
  split at q
  · simp only [Rep] at R2
    refine ⟨_, op_notN, R2, ?_⟩
    rw [isNon_rep R1]
    exact fo.id q W rep_bl
  · split at q
    · simp only [Rep] at R1 R2
      exact ⟨_, op_notB, ⟨_, _, R1, R2, fo.id q W rep_bl⟩⟩
    · exact q.elim
  · exact q.elim

/-! ### chained comparisons -/
variable {a b c : Expr} {pos : Pos} {ta tb tc : DE}
def dChain (f g : F2) (ta tb tc : DE) : DE := fun env st k => ta env st fun x s1 => tb env s1 fun y s2 => f x y s2 fun z s3 => match z with
  | .bl b => if b = true then tc env s3 fun u s4 => g y u s4 k else k (.bl false) s3
  | _ => False
theorem ch_in {K : PySem.W.Frag} {f g : F2} {σ : L2.St} {H : Hp} {Q : VK} (h : tD K (dChain f g ta tb tc) σ H Q) : tChain (rD K f) (rD K g) (tD K ta) (tD K tb) (tD K tc) σ H Q := by
  obtain ⟨w, env, st, kk, W, E, h, fo⟩ := h
  refine ⟨w, env, st, _, W, E, h, fun d st1 v w1 H1 h1 l1 W1 R1 => ⟨w1, env, st1, _, W1, E.mono l1, h1, fun e st2 u w2 H2 h2 l2 W2 R2 => ?_⟩⟩
  refine ⟨w2, st2, d, e, _, W2, Rep.mono l2 _ _ R1, R2, h2, fun z st3 x w3 H3 h3 l3 W3 R3 => ?_⟩
  cases z with
  | bl k =>
    simp only [Rep] at R3
    refine ⟨k, R3, ?_⟩
    cases k with
    | true =>
      simp only [↓reduceIte] at h3 ⊢
      exact ⟨w3, env, st3, _, W3, ((E.mono l1).mono l2).mono l3, h3, fun u' st4 v4 w4 H4 h4 l4 W4 R4 =>
        ⟨w4, st4, e, u', kk, W4, Rep.mono (l3.trans l4) _ _ R2, R4, h4, fo.le (((l1.trans l2).trans l3).trans l4)⟩⟩
    | false =>
      simp only [Bool.false_eq_true, ↓reduceIte] at h3 ⊢
      exact fo _ _ _ _ _ h3 ((l1.trans l2).trans l3) W3 rep_bl
  | _ => exact h3.elim
theorem pd_chain {op op' : CmpOp} {f g : F2} (ho : OpR X (compareOp op) (rD X.K f)) (ho' : OpR X (compareOp op') (rD X.K g)) (ha : PD X a ta) (hb : PD X b tb) (hc : PD X c tc)
    (hm : lastMarks [op, op'] [b, c] = false := by with_unfolding_all rfl) : PD X (.Compare a [op, op'] [b, c] pos) (dChain f g ta tb tc) :=
  (pe_chain ho ho' ha hb hc hm).wk fun _ _ _ h => ch_in h
theorem test_in {K : PySem.W.Frag} {t : DE} {σ : L2.St} {H : Hp} {Q : Bool → Hp → Prop} {T : TE} (hT : ∀ Q, tD K t σ H Q → T σ H Q) (h : tDT K (dTest t) σ H Q) : tTest T σ H Q := by
  obtain ⟨w, env, st, kk, W, E, h, fo⟩ := h
  refine hT _ ⟨w, env, st, _, W, E, h, fun d st1 v w1 H1 h1 l1 W1 R1 => ?_⟩
  cases d with
  | bl b =>
    simp only [Rep] at R1
    exact ⟨b, R1, fo b st1 w1 H1 h1 l1 W1⟩
  | _ => exact h1.elim
theorem pd_tchain {op op' : CmpOp} {f g : F2} (ho : OpR X (compareOp op) (rD X.K f)) (ho' : OpR X (compareOp op') (rD X.K g)) (ha : PD X a ta) (hb : PD X b tb) (hc : PD X c tc)
    (hm : lastMarks [op, op'] [b, c] = false := by with_unfolding_all rfl) : PDT X (.Compare a [op, op'] [b, c] pos) (dTest (dChain f g ta tb tc)) :=
  (pt_chain ho ho' ha hb hc hm).wk fun σ H Q h => test_in (fun Q h => ch_in h) h

/-! ### subscripts, slices -/
def ixD : F2 := fun d e st k => match e with
  | .int i => match deref st d with
    | .lst xs => ∃ x, atI xs i = some x ∧ k x st
    | .tup xs => ∃ x, atI xs i = some x ∧ k x st
    | .str z => z.length ≤ 16777216 ∧ ∃ c, atI z.cps.toList i = some c ∧ k (.str ⟨#[c]⟩) st
    | _ => False
  | _ => False
theorem atI_rep {K : PySem.W.Frag} {w : Wd} {xs : List D} {vs : List V} {i : Int} {x : D} (r : Reps K w xs vs) (h : atI xs i = some x) : ∃ v, atI vs i = some v ∧ Rep K w x v := by
  unfold atI at h ⊢
  rw [← r.length] at h
  cases e : ixN vs.length i with
  | none => rw [e] at h; cases h
  | some j =>
    rw [e] at h
    obtain ⟨v, e1, e2⟩ := r.get (i := j) (d := x) h
    exact ⟨v, e1, e2⟩
theorem dix : IxR X (rD X.K ixD) := by
  rintro value slice pins s σ H x y v u Q I rx ry ⟨w, st, d, e, kk, W, R1, R2, q, fo⟩ hs
  unfold ixD at q
  split at q
  · rename_i i
    simp only [Rep] at R2
    split at q
    · rename_i xs hd
      obtain ⟨z, hz, q⟩ := q
      obtain ⟨p, vs, e1, q1, r1, _⟩ := rep_lst W R1 hd
      obtain ⟨zv, hv, rz⟩ := atI_rep r1 hz
      exact ix_list value slice pins s σ H x y v u Q I rx ry ⟨p, vs, i, zv, e1, R2, q1, hv, fo.id q W rz⟩ hs
    · rename_i xs hd
      obtain ⟨z, hz, q⟩ := q
      obtain ⟨p, vs, e1, q1, r1, _⟩ := rep_tup W R1 hd
      obtain ⟨zv, hv, rz⟩ := atI_rep r1 hz
      exact ix_tup value slice pins s σ H x y v u Q I rx ry ⟨p, vs, i, zv, e1, R2, q1, hv, fo.id q W rz⟩ hs
    · rename_i z hd
      obtain ⟨hz, c, hc, q⟩ := q
      have e0 := deref_self hd (fun _ z => by cases z) (fun _ z => by cases z)
      subst e0
      simp only [Rep] at R1
      exact ix_str value slice pins s σ H x y v u Q I rx ry ⟨z, i, c, R1, R2, line16 hz, hc, fo.id q W rep_str⟩ hs
    · exact q.elim
  · exact q.elim
theorem pd_ix (ha : PD X a ta) (hb : PD X b tb) (hs : PlainIx b := by exact fun _ _ => rfl) : PD X (.Subscript a b pos) (dOp ixD ta tb) :=
  (pe_ix dix ha hb hs).wk fun _ _ _ h => d2_in h
/-- the items of xs[lo:hi] -/
def cutD {α : Type} (xs : List α) (lo hi : Option Int) : List α := (xs.drop (HT.sIx xs.length 0 lo)).take (HT.sIx xs.length xs.length hi - HT.sIx xs.length 0 lo)
abbrev DO := Env → Sto → (Option Int → Sto → Prop) → Prop
def tDO (K : PySem.W.Frag) (t : DO) : TO := fun σ H Q => ∃ w env st kk, Wld K w st H ∧ EnvR K w env σ ∧ t env st kk ∧ ∀ o st' w' H', kk o st' → Le w w' → Wld K w' st' H' → Q o H'
abbrev PDO (X : Cx) (e : Option Expr) (t : DO) : Prop := PO X e (tDO X.K t)
theorem _root_.L2.PO.wk {X : Cx} {e : Option Expr} {t t' : TO} (h : PO X e t) (i : ∀ σ H Q, t' σ H Q → t σ H Q) : PO X e t' := ⟨fun pins s σ H Q I q => h.run pins s σ H Q I (i σ H Q q)⟩
def dNo : DO := fun _ st k => k none st
def dSome (t : DE) : DO := fun env st k => t env st fun d s1 => match d with
  | .int i => k (some i) s1
  | _ => False
theorem pdo_none : PDO X none dNo := po_none.wk fun σ H Q ⟨w, env, st, kk, W, E, h, fo⟩ => fo _ _ _ _ h (.refl _) W
theorem pdo_some {e : Expr} (h : PD X e ta) : PDO X (some e) (dSome ta) := by
  refine (po_some h).wk fun σ H Q ⟨w, env, st, kk, W, E, h, fo⟩ => ?_
  refine ⟨w, env, st, _, W, E, h, fun d st1 v w1 H1 h1 l1 W1 R1 => ?_⟩
  cases d with
  | int i =>
    simp only [Rep] at R1
    exact ⟨i, R1, fo _ _ _ _ h1 l1 W1⟩
  | _ => exact h1.elim
def cutOp (d : D) (lo hi : Option Int) (st : Sto) (k : DK) : Prop := match deref st d with
  | .lst xs => k (.lst (cutD xs lo hi)) st
  | .tup xs => noG d (k (.tup (cutD xs lo hi)) st)
  | _ => False
/-- a new list of the store out of a slice -/
def cutNew (d : D) (lo hi : Option Int) (st : Sto) (k : DK) : Prop := match deref st d with
  | .lst xs => k (.obj st.length) (st ++ [cutD xs lo hi])
  | _ => False
theorem cut_reps {K : PySem.W.Frag} {w : Wd} {xs : List D} {vs : List V} (r : Reps K w xs vs) (lo hi : Option Int) : Reps K w (cutD xs lo hi) (cutV vs lo hi) := by
  unfold cutD cutV
  rw [← r.length]
  exact (r.drop _).take _
def rCut (K : PySem.W.Frag) (f : D → Option Int → Option Int → Sto → DK → Prop) : V → Option Int → Option Int → Hp → VK → Prop := fun x lo hi H Q => ∃ w st d kk, Wld K w st H ∧ Rep K w d x ∧ f d lo hi st kk ∧ Fol K w kk Q
theorem cutV_le (vs : List V) (lo hi : Option Int) (h : vs.length ≤ sizeLine) : (cutV vs lo hi).length ≤ sizeLine := Nat.le_trans (cutV_length vs lo hi) h
theorem sl_cut : SlR X (rCut X.K cutOp) := by
  rintro pins s σ H x v vl vu lo hi sl Q I rx hs pl pu ⟨w, st, d, kk, W, R1, q, fo⟩
  unfold cutOp at q
  split at q
  · rename_i xs hd
    obtain ⟨p, vs, e1, q1, r1, n⟩ := rep_lst W R1 hd
    exact sl_list pins s σ H x v vl vu lo hi sl Q I rx hs pl pu ⟨p, vs, e1, q1, fol_lst W (cut_reps r1 lo hi) (cutV_le vs lo hi n) q fo⟩
  · rename_i xs hd
    obtain ⟨p, vs, e1, q1, r1, n⟩ := rep_tup W R1 hd
    obtain ⟨ng, q⟩ := noG_of q
    refine sl_tupA pins s σ H x v vl vu lo hi sl Q I rx hs pl pu ⟨p, vs, e1, q1, fun hw => ?_, fun _ => fol_tup W (cut_reps r1 lo hi) (cutV_le vs lo hi n) q fo⟩
    have ec : cutD xs lo hi = xs := by
      unfold cutD
      rw [← r1.length, hw.1, hw.2, List.drop_zero, r1.length, Nat.sub_zero, List.take_length]
    refine fo.id q W ?_
    rw [ec]
    have e0 := deref_tup hd ng
    rw [← e0, ← e1]
    exact R1
  · exact q.elim
theorem sl_cutNew : SlR X (rCut X.K cutNew) := by
  rintro pins s σ H x v vl vu lo hi sl Q I rx hs pl pu ⟨w, st, d, kk, W, R1, q, fo⟩
  unfold cutNew at q
  split at q
  · rename_i xs hd
    obtain ⟨p, vs, e1, q1, r1, n⟩ := rep_lst W R1 hd
    exact sl_list pins s σ H x v vl vu lo hi sl Q I rx hs pl pu ⟨p, vs, e1, q1, fol_new W (cut_reps r1 lo hi) (cutV_le vs lo hi n) q fo⟩
  · exact q.elim
def dCut (f : D → Option Int → Option Int → Sto → DK → Prop) (t : DE) (l h : DO) : DE := fun env st k => t env st fun d s1 => l env s1 fun lo s2 => h env s2 fun hi s3 => f d lo hi s3 k
theorem pd_cut {f : D → Option Int → Option Int → Sto → DK → Prop} {lo hi : Option Expr} {tl th : DO} {p2 : Pos} (hf : SlR X (rCut X.K f)) (he : PD X a ta) (hl : PDO X lo tl) (hu : PDO X hi th) : PD X (.Subscript a (.Slice lo hi none p2) pos) (dCut f ta tl th) := by
  refine (pe_slice hf he hl hu).wk fun σ H Q ⟨w, env, st, kk, W, E, h, fo⟩ => ?_
  exact ⟨w, env, st, _, W, E, h, fun d st1 v w1 H1 h1 l1 W1 R1 => ⟨w1, env, st1, _, W1, E.mono l1, h1, fun lo st2 w2 H2 h2 l2 W2 =>
    ⟨w2, env, st2, _, W2, (E.mono l1).mono l2, h2, fun hi st3 w3 H3 h3 l3 W3 => ⟨w3, st3, d, kk, W3, Rep.mono (l2.trans l3) _ _ R1, h3, fo.le ((l1.trans l2).trans l3)⟩⟩⟩⟩

/-! ### built-ins called -/
abbrev FB := List D → Sto → DK → Prop
def rDB (K : PySem.W.Frag) (f : FB) : List V → Hp → VK → Prop := fun vs H Q => ∃ w st ds kk, Wld K w st H ∧ Reps K w ds vs ∧ f ds st kk ∧ Fol K w kk Q
def dB (f : FB) (t : DA) : DE := fun env st k => t env st fun ds s1 => f ds s1 k
variable {e : Expr} {es : List Expr} {x : Str} {p : Pos} {idn T : String} {f : FB} {t : DA}
theorem db_in {K : PySem.W.Frag} {σ : L2.St} {H : Hp} {Q : VK} (h : tD K (dB f t) σ H Q) : tCB (rDB K f) (tDA K t) σ H Q := by
  obtain ⟨w, env, st, kk, W, E, h, fo⟩ := h
  exact ⟨w, env, st, _, W, E, h, fun ds st1 vs w1 H1 h1 l1 W1 R1 => ⟨w1, st1, ds, kk, W1, R1, h1, fo.le l1⟩⟩
theorem pd_callB (hc : CallR X (.builtin idn) (rDB X.K f)) (hm : X.mg x = none) (hv : bootBuiltins x = some (.builtin idn)) (ha : PDA X (e :: es) t) (hg : Gl X x := by rfl) (hn : x ≠ "__name__" := by decide) (hdb : (x == ("__debug__" : Str)) = false := by decide)
    (he : starEach (e :: es) X.env = (false, eval e X.env) :: starEach es X.env := by rfl) (hpl : (backTo pos (starEach es X.env)).any (·.1) = false := by rfl) : PD X (.Call (.Name x p) (e :: es) [] pos) (dB f t) :=
  (pe_callB hc hg hm hv ha hn hdb he hpl).wk fun _ _ _ h => db_in h
theorem pd_callTy (hc : CallR X (.type T) (rDB X.K f)) (hm : X.mg x = none) (hv : bootBuiltins x = some (.type T)) (ha : PDA X (e :: es) t) (hg : Gl X x := by rfl) (hn : x ≠ "__name__" := by decide) (hdb : (x == ("__debug__" : Str)) = false := by decide)
    (he : starEach (e :: es) X.env = (false, eval e X.env) :: starEach es X.env := by rfl) (hpl : (backTo pos (starEach es X.env)).any (·.1) = false := by rfl) : PD X (.Call (.Name x p) (e :: es) [] pos) (dB f t) :=
  (pe_callTy hc hg hm hv ha hn hdb he hpl).wk fun _ _ _ h => db_in h
theorem CallR.by_ {g : Value} {f : FB}
    (h : ∀ (vs : List V) (H : Hp) (Q : VK) (w : Wd) (st : Sto) (ds : List D) (kk : DK), Wld X.K w st H → Reps X.K w ds vs → f ds st kk → Fol X.K w kk Q → ∃ r : List V → Hp → VK → Prop, CallR X g r ∧ r vs H Q) : CallR X g (rDB X.K f) :=
  fun pins s σ H xs us Q I rs ⟨w, st, ds, kk, W, R, q, fo⟩ => by
    obtain ⟨r, hr, q⟩ := h xs H Q w st ds kk W R q fo
    exact hr pins s σ H xs us Q I rs q
theorem one_rep {K : PySem.W.Frag} {w : Wd} {d : D} {vs : List V} (R : Reps K w [d] vs) : ∃ v, vs = [v] ∧ Rep K w d v := by
  obtain ⟨v, r, rfl, h1, h2⟩ := R.inv
  rw [h2.inv0]
  exact ⟨v, rfl, h1⟩
theorem two_rep {K : PySem.W.Frag} {w : Wd} {d e : D} {vs : List V} (R : Reps K w [d, e] vs) : ∃ v u, vs = [v, u] ∧ Rep K w d v ∧ Rep K w e u := by
  obtain ⟨v, r, rfl, h1, h2⟩ := R.inv
  obtain ⟨u, rfl, h3⟩ := one_rep h2
  exact ⟨v, u, rfl, h1, h3⟩
def bLen : FB := fun ds st k => match ds with
  | [d] => match deref st d with
    | .lst xs => k (.int xs.length) st
    | .tup xs => k (.int xs.length) st
    | .str z => z.length ≤ 16777216 ∧ k (.int z.length) st
    | _ => False
  | _ => False
theorem cb_len : CallR X (.builtin "len") (rDB X.K bLen) := by
  refine CallR.by_ fun vs H Q w st ds kk W R q fo => ?_
  unfold bLen at q
  split at q
  · obtain ⟨v, rfl, R1⟩ := one_rep R
    split at q
    · rename_i hd
      obtain ⟨p, us, rfl, q1, r1, _⟩ := rep_lst W R1 hd
      refine ⟨_, call_len_seq, p, us, rfl, .inl q1, ?_⟩
      rw [r1.length]
      exact fo.id q W rep_int
    · rename_i hd
      obtain ⟨p, us, rfl, q1, r1, _⟩ := rep_tup W R1 hd
      refine ⟨_, call_len_seq, p, us, rfl, .inr q1, ?_⟩
      rw [r1.length]
      exact fo.id q W rep_int
    · rename_i hd
      have e0 := deref_self hd (fun _ z => by cases z) (fun _ z => by cases z)
      subst e0
      simp only [Rep] at R1
      subst R1
      exact ⟨_, call_len_str, _, rfl, line16 q.1, fo.id q.2 W rep_int⟩
    · exact q.elim
  · exact q.elim
def bAbs : FB := fun ds st k => match ds with
  | [.int i] => k (.int (if i < 0 then -i else i)) st
  | _ => False
theorem cb_abs : CallR X (.builtin "abs") (rDB X.K bAbs) := by
  refine CallR.by_ fun vs H Q w st ds kk W R q fo => ?_
  unfold bAbs at q
  split at q
  · obtain ⟨v, rfl, R1⟩ := one_rep R
    simp only [Rep] at R1
    subst R1
    exact ⟨_, call_abs, _, rfl, fo.id q W rep_int⟩
  · exact q.elim
def bInt : FB := fun ds st k => match ds with
  | [.int i] => k (.int i) st
  | [.bl b] => k (.int (if b = true then 1 else 0)) st
  | _ => False
theorem cb_int : CallR X (.type "int") (rDB X.K bInt) := by
  refine CallR.by_ fun vs H Q w st ds kk W R q fo => ?_
  unfold bInt at q
  split at q
  · obtain ⟨v, rfl, R1⟩ := one_rep R
    simp only [Rep] at R1
    subst R1
    exact ⟨_, call_int1, .inl ⟨_, rfl, fo.id q W rep_int⟩⟩
  · obtain ⟨v, rfl, R1⟩ := one_rep R
    simp only [Rep] at R1
    subst R1
    exact ⟨_, call_int1, .inr ⟨_, rfl, fo.id q W rep_int⟩⟩
  · exact q.elim
/-- a list of ints, read off -/
def intsD : List D → Option (List Int)
  | [] => some []
  | .int i :: r => (intsD r).map (i :: ·)
  | _ => none
theorem intsD_eq : ∀ {ds : List D} {ns : List Int}, intsD ds = some ns → ds = ns.map D.int
  | [], ns, h => by cases h; rfl
  | .int i :: r, ns, h => by
    have h' : (intsD r).map (i :: ·) = some ns := h
    cases e : intsD r with
    | none => rw [e] at h'; cases h'
    | some ms =>
      rw [e] at h'
      cases h'
      rw [intsD_eq e]
      rfl
  | .non :: _, _, h => by cases h
  | .bl _ :: _, _, h => by cases h
  | .str _ :: _, _, h => by cases h
  | .lst _ :: _, _, h => by cases h
  | .klst _ :: _, _, h => by cases h
  | .tup _ :: _, _, h => by cases h
  | .obj _ :: _, _, h => by cases h
  | .dic _ _ :: _, _, h => by cases h
  | .fdic _ _ :: _, _, h => by cases h
  | .gtup _ :: _, _, h => by cases h
theorem intsD_map : ∀ (ns : List Int), intsD (ns.map D.int) = some ns
  | [] => rfl
  | n :: ns => by
    show (intsD (ns.map D.int)).map (n :: ·) = _
    rw [intsD_map ns]
    rfl
def blsD : List D → Option (List Bool)
  | [] => some []
  | .bl i :: r => (blsD r).map (i :: ·)
  | _ => none
theorem blsD_eq : ∀ {ds : List D} {ns : List Bool}, blsD ds = some ns → ds = ns.map D.bl
  | [], ns, h => by cases h; rfl
  | .bl i :: r, ns, h => by
    have h' : (blsD r).map (i :: ·) = some ns := h
    cases e : blsD r with
    | none => rw [e] at h'; cases h'
    | some ms =>
      rw [e] at h'
      cases h'
      rw [blsD_eq e]
      rfl
  | .non :: _, _, h => by cases h
  | .int _ :: _, _, h => by cases h
  | .str _ :: _, _, h => by cases h
  | .lst _ :: _, _, h => by cases h
  | .klst _ :: _, _, h => by cases h
  | .tup _ :: _, _, h => by cases h
  | .obj _ :: _, _, h => by cases h
  | .dic _ _ :: _, _, h => by cases h
  | .fdic _ _ :: _, _, h => by cases h
  | .gtup _ :: _, _, h => by cases h
theorem blsD_map : ∀ (ns : List Bool), blsD (ns.map D.bl) = some ns
  | [] => rfl
  | n :: ns => by
    show (blsD (ns.map D.bl)).map (n :: ·) = _
    rw [blsD_map ns]
    rfl
def bAll : FB := fun ds st k => match ds with
  | [d] => match deref st d with
    | .lst xs => match blsD xs with
      | some bs => k (.bl (bs.all id)) st
      | none => False
    | _ => False
  | _ => False
theorem cb_all (hc : X.calm = true) : CallR X (.builtin "all") (rDB X.K bAll) := by
  refine CallR.by_ fun vs H Q w st ds kk W R q fo => ?_
  unfold bAll at q
  split at q
  · obtain ⟨v, rfl, R1⟩ := one_rep R
    split at q
    · rename_i hd
      split at q
      · rename_i bs hb
        obtain ⟨p, us, rfl, q1, r1, _⟩ := rep_lst W R1 hd
        rw [blsD_eq hb] at r1
        refine ⟨_, cr_all hc, p, bs, rfl, ?_, fo.id q W rep_bl⟩
        rw [← r1.bls]
        exact q1
      · exact q.elim
    · exact q.elim
  · exact q.elim
def bAny : FB := fun ds st k => match ds with
  | [d] => match deref st d with
    | .lst xs => match blsD xs with
      | some bs => k (.bl (bs.any id)) st
      | none => False
    | _ => False
  | _ => False
theorem cb_any (hc : X.calm = true) : CallR X (.builtin "any") (rDB X.K bAny) := by
  refine CallR.by_ fun vs H Q w st ds kk W R q fo => ?_
  unfold bAny at q
  split at q
  · obtain ⟨v, rfl, R1⟩ := one_rep R
    split at q
    · rename_i hd
      split at q
      · rename_i bs hb
        obtain ⟨p, us, rfl, q1, r1, _⟩ := rep_lst W R1 hd
        rw [blsD_eq hb] at r1
        refine ⟨_, cr_any hc, p, bs, rfl, ?_, fo.id q W rep_bl⟩
        rw [← r1.bls]
        exact q1
      · exact q.elim
    · exact q.elim
  · exact q.elim
def bSumL : FB := fun ds st k => match ds with
  | [d] => match deref st d with
    | .lst xs => match intsD xs with
      | some ns => k (.int ns.sum) st
      | none => False
    | _ => False
  | _ => False
theorem cb_sumL (hc : X.calm = true) : CallR X (.builtin "sum") (rDB X.K bSumL) := by
  refine CallR.by_ fun vs H Q w st ds kk W R q fo => ?_
  unfold bSumL at q
  split at q
  · obtain ⟨v, rfl, R1⟩ := one_rep R
    split at q
    · rename_i hd
      split at q
      · rename_i bs hb
        obtain ⟨p, us, rfl, q1, r1, _⟩ := rep_lst W R1 hd
        rw [intsD_eq hb] at r1
        refine ⟨_, cr_sum hc, p, bs, rfl, ?_, fo.id q W rep_int⟩
        rw [← r1.ints]
        exact q1
      · exact q.elim
    · exact q.elim
  · exact q.elim
def bMax2 : FB := fun ds st k => match ds with
  | [.int i, .int j] => k (.int (if j > i then j else i)) st
  | _ => False
theorem cb_max2 (hc : X.calm = true) : CallR X (.builtin "max") (rDB X.K bMax2) := by
  refine CallR.by_ fun vs H Q w st ds kk W R q fo => ?_
  unfold bMax2 at q
  split at q
  · obtain ⟨v, u, rfl, R1, R2⟩ := two_rep R
    simp only [Rep] at R1 R2
    subst R1 R2
    exact ⟨_, call_max2 hc, _, _, rfl, fo.id q W rep_int⟩
  · exact q.elim
def bMin2 : FB := fun ds st k => match ds with
  | [.int i, .int j] => k (.int (if j < i then j else i)) st
  | _ => False
theorem cb_min2 (hc : X.calm = true) : CallR X (.builtin "min") (rDB X.K bMin2) := by
  refine CallR.by_ fun vs H Q w st ds kk W R q fo => ?_
  unfold bMin2 at q
  split at q
  · obtain ⟨v, u, rfl, R1, R2⟩ := two_rep R
    simp only [Rep] at R1 R2
    subst R1 R2
    exact ⟨_, call_min2 hc, _, _, rfl, fo.id q W rep_int⟩
  · exact q.elim
/-- list(x): a new list nobody changes -/
def bList : FB := fun ds st k => match ds with
  | [d] => match deref st d with
    | .lst xs => k (.lst xs) st
    | .tup xs => k (.lst xs) st
    | _ => False
  | _ => False
def bListNew : FB := fun ds st k => match ds with
  | [d] => match deref st d with
    | .lst xs => k (.obj st.length) (st ++ [xs])
    | .tup xs => k (.obj st.length) (st ++ [xs])
    | _ => False
  | _ => False
theorem cb_list : CallR X (.type "list") (rDB X.K bList) := by
  refine CallR.by_ fun vs H Q w st ds kk W R q fo => ?_
  unfold bList at q
  split at q
  · obtain ⟨v, rfl, R1⟩ := one_rep R
    split at q
    · rename_i hd
      obtain ⟨p, us, rfl, q1, r1, n⟩ := rep_lst W R1 hd
      exact ⟨_, call_list_of, p, us, rfl, .inl q1, fol_lst W r1 n q fo⟩
    · rename_i hd
      obtain ⟨p, us, rfl, q1, r1, n⟩ := rep_tup W R1 hd
      exact ⟨_, call_list_of, p, us, rfl, .inr q1, fol_lst W r1 n q fo⟩
    · exact q.elim
  · exact q.elim
theorem cb_listNew : CallR X (.type "list") (rDB X.K bListNew) := by
  refine CallR.by_ fun vs H Q w st ds kk W R q fo => ?_
  unfold bListNew at q
  split at q
  · obtain ⟨v, rfl, R1⟩ := one_rep R
    split at q
    · rename_i hd
      obtain ⟨p, us, rfl, q1, r1, n⟩ := rep_lst W R1 hd
      exact ⟨_, call_list_of, p, us, rfl, .inl q1, fol_new W r1 n q fo⟩
    · rename_i hd
      obtain ⟨p, us, rfl, q1, r1, n⟩ := rep_tup W R1 hd
      exact ⟨_, call_list_of, p, us, rfl, .inr q1, fol_new W r1 n q fo⟩
    · exact q.elim
  · exact q.elim
def bTuple : FB := fun ds st k => match ds with
  | [d] => match deref st d with
    | .lst xs => k (.tup xs) st
    | .tup xs => noG d (k (.tup xs) st)
    | _ => False
  | _ => False
theorem cb_tuple : CallR X (.type "tuple") (rDB X.K bTuple) := by
  refine CallR.by_ fun vs H Q w st ds kk W R q fo => ?_
  unfold bTuple at q
  split at q
  · obtain ⟨v, rfl, R1⟩ := one_rep R
    split at q
    · rename_i hd
      obtain ⟨p, us, rfl, q1, r1, n⟩ := rep_lst W R1 hd
      exact ⟨_, call_tuple_of, p, us, rfl, .inl ⟨q1, fol_tup W r1 n q fo⟩⟩
    · rename_i hd
      obtain ⟨ng, q⟩ := noG_of q
      have e0 := deref_tup hd ng
      obtain ⟨p, us, rfl, q1, r1, n⟩ := rep_tup W R1 hd
      refine ⟨_, call_tuple_of, p, us, rfl, .inr ⟨q1, fo.id q W ?_⟩⟩
      rw [← e0]
      exact R1
    · exact q.elim
  · exact q.elim
end
end DL

/-! enumerate over a tuple, and over either -/
namespace DL
open PySem PySem.Spec PyProof.Rows L2
theorem meetsEnumOne {v : Value} {ob : Obj} {G : Heap → Prop} (B : Begins v ob G) :
    Meets (Builtin.«enumerate.__new__» ⟨[.type "enumerate", v], []⟩) (fun _ R z => G z.heap ∧
      R (.ok (.ret (.ref (z.heap.push ob).objs.size))) { z with heap := (z.heap.push ob).push { cls := .type "enumerate", data := .fields #[.none, .bool false, .ref z.heap.objs.size, rawInt 0, .none, .none] } }) :=
  .of_wp fun pr w A R z hh => by
    obtain ⟨hp, gs, dr, tk, os⟩ := z
    obtain ⟨g1, hh⟩ := hh
    have hsub := sub_enumerate
    have into : ∀ {A1 : Around} {E : Value → Shared → Prop} {Q : Value → Shared → Prop}, Q (.ref hp.objs.size) ⟨hp.push ob, gs, dr, tk, os⟩ → wpAny (model pr w) A1 (pyIter v) Q E ⟨hp, gs, dr, tk, os⟩ :=
      fun q => B.iter pr w _ _ ⟨hp, gs, dr, tk, os⟩ _ g1 q
    wp_walk using into
    refine wpAny_stack_any fun stk => wpAny_pure ?_
    split
    · rename_i cl _ _ _ _ _
      cases (cl == Value.type "enumerate")
      · wp_walk using into
        exact ⟨_, rfl, hh⟩
      · wp_walk using into
        exact ⟨_, rfl, hh⟩
    · wp_walk using into
      exact ⟨_, rfl, hh⟩
theorem callEnumOne {pr : Program} {w : World} {A : Around} {E : Value → Shared → Prop} {z : Shared} {v : Value} {ob : Obj} {G : Heap → Prop} {Q : Value → Shared → Prop} (B : Begins v ob G) (g1 : G z.heap)
    (hh : ∀ h', IsEnum h' (z.heap.objs.size + 1) z.heap.objs.size 0 .none → h'.get? z.heap.objs.size = some ob → (∀ b o, z.heap.get? b = some o → h'.get? b = some o) → Q (.ref (z.heap.objs.size + 1)) { z with heap := h' }) :
    wpAny (model pr w) A (call (.type "enumerate") [v]) Q E z := by
  refine callType_new F.called_enumerate (by decide) (F.typeCall_enumerate_1 _) (F.newCall_enumerate_1 _) (fun ob1 => F.args_object_init_2 ob1 _) F.entry_enumerate_new (meetsEnumOne B) ⟨g1, ?_⟩
  have hz : (z.heap.push ob).objs.size = z.heap.objs.size + 1 := Heap.size_push ..
  show _ ∧ _
  rw [hz]
  have he : IsEnum ((z.heap.push ob).push { cls := .type "enumerate", data := .fields #[.none, .bool false, .ref z.heap.objs.size, rawInt 0, .none, .none] }) (z.heap.objs.size + 1) z.heap.objs.size 0 .none := by
    have this := Heap.get?_push_size (z.heap.push ob) (o := { cls := .type "enumerate", data := .fields #[.none, .bool false, .ref z.heap.objs.size, rawInt 0, .none, .none] }) rfl
    rw [hz] at this
    exact this
  refine ⟨⟨_, he, rfl⟩, hh _ he (Heap.get?_push_of_some _ (Heap.get?_push_size _ B.free)) fun b o q => Heap.get?_push_of_some _ (Heap.get?_push_of_some _ q)⟩
/-- the tuple at a, each item in a new pair -/
def IteT (K : PySem.W.Frag) (a : Addr) : It :=
  ⟨fun n H => ∃ (zs : List V) (u : V), SqT K H a zs ∧ zs[n]? = some u, fun n H v H' => ∃ T u, v = .ref T ∧ H T = none ∧ H' = upd H T (.tup [.int (n : Nat), u]) ∧ ∀ zs, SqT K H a zs → zs[n]? = some u, fun n H => ∃ zs : List V, SqT K H a zs ∧ zs.length = n⟩
theorem turnEnumT {Pg : Program} {w : World} {K : PySem.W.Frag} {elts : List Expr} {kk : Nat} {tpos : Pos} (a en it : Addr) :
    Turn Pg w K (.Tuple elts kk tpos) (IteT K a) [en, it] en (fun n h => (∃ old, IsEnum h en it ((n : Nat) : Int) old) ∧ h.IsTupleIter it a n ∧ en ≠ it ∧ a ≠ it ∧ a ≠ en) where
  mem := by simp
  obj := fun n h s1 b hb => by
    obtain ⟨⟨old, g1⟩, ⟨o, ho, hc, hd⟩, _⟩ := s1
    have e' : b = en ∨ b = it := by simpa using hb
    rcases e' with rfl | rfl
    · exact ⟨_, g1, fun v q => nomatch q⟩
    · exact ⟨o, ho, fun v q => by rw [hd] at q; cases q⟩
  keep := fun n h h' s1 kp => by
    obtain ⟨⟨old, g1⟩, g2, g3, g4, g5⟩ := s1
    exact ⟨⟨old, kp en (by simp) _ g1⟩, g2.at fun o q => kp it (by simp) o q, g3, g4, g5⟩
  item := by
    intro X hP hw hK hc n pins s σ H E I fps s1 hg
    subst hP hw hK
    obtain ⟨⟨old, g1⟩, g2, g3, g4, g5⟩ := s1
    obtain ⟨zs, u, hq, hu⟩ := hg
    obtain ⟨its, rv, p, hz⟩ := I.tuple hq
    obtain ⟨val, hv, ru⟩ := rv.get hu
    have lt1 : en < s.heap.objs.size := Heap.lt_size g1
    have lt2 : it < s.heap.objs.size := by
      obtain ⟨_, q, _⟩ := g2
      exact Heap.lt_size q
    have hn : n < its.toArray.size := by
      obtain ⟨h', _⟩ := List.getElem?_eq_some_iff.mp hv
      simpa using h'
    refine wpAny_pyNext_enum_itemD (Draws.tuple (A := X.A.in1) (show X.A.in1.handled = none from I.ok.hd hc) it a g4 its.toArray) g1 ⟨g2, p⟩ hn g3 (by simp; exact ⟨g3, Ne.symm g5⟩) fun x h' tk hP ho hst hT hsz hk => ?_
    have hx : x = val := by
      have : its.toArray[n]? = some val := by simpa using hv
      rw [this] at hP
      cases hP
      rfl
    subst hx
    refine ⟨_, rfl, wpAny_letOwnedTupleGo_enum (s := { s with heap := h', toks := tk + 1 }) ho fun h'' he' sb => ?_⟩
    have hT2 : h''.get? s.heap.objs.size = some { cls := .type "tuple", data := .seq #[.int n tk, x] } := (sb.2 _ (Nat.ne_of_gt lt1)).trans hT
    have fresh : ObjOk X.prog X.w (upd H s.heap.objs.size (.tup [.int (n : Nat), u])) h'' s.heap.objs.size (.tup [.int (n : Nat), u]) :=
      ⟨by show 2 ≤ sizeLine; decide, [.int n tk, x], .cons ⟨_, rfl⟩ (.cons ru .nil), ⟨_, hT2, rfl, _, rfl⟩⟩
    have I2 : Inv X pins σ (upd H s.heap.objs.size (.tup [.int (n : Nat), u])) { s with heap := h'', toks := tk + 1 } :=
      I.turnedNew (ch := [en, it]) (fun b o1 hb q => (sb.2 b (fun z => hb (by simp [z]))).trans (hk b o1 (fun z => hb (by simp [z])) (fun z => hb (by simp [z])) q)) fps (Nat.le_refl _) fresh
    refine ⟨.ref s.heap.objs.size, _, I2, rfl, ⟨_, u, rfl, I.hok.fresh (Nat.le_refl _), rfl, fun ys hy => by rw [I.tuple_inj hy hq]; exact hu⟩, ⟨⟨x, ?_⟩, hst.1.at fun o q => (sb.2 it (Ne.symm g3)).trans q, g3, g4, g5⟩, fun b hb => ?_⟩
    · have e1 : ((n + 1 : Nat) : Int) = (n : Int) + 1 := by omega
      rw [e1]
      exact he'
    · have hb' : b < s.heap.objs.size := by
        have e' : b = en ∨ b = it := by simpa using hb
        rcases e' with rfl | rfl
        · exact lt1
        · exact lt2
      rw [upd_ne (Nat.ne_of_lt hb')]
      exact (fps b hb).1
  done := by
    intro X hP hw hK hc n pins s σ H E I fps s1 hg
    subst hP hw hK
    obtain ⟨⟨old, g1⟩, g2, g3, g4, g5⟩ := s1
    obtain ⟨zs, hq, hu⟩ := hg
    obtain ⟨its, rv, p, hz⟩ := I.tuple hq
    obtain ⟨f0, f1, f2, f3, f4, f5⟩ := fps it (by simp)
    have hl := rv.length
    have hn : its.toArray.size = n := by
      rw [← hu, hl]
      simp
    subst hn
    exact wpAny_pyNext_enum_endD (Draws.tuple (A := X.A.in1) (show X.A.in1.handled = none from I.ok.hd hc) it a g4 its.toArray) g1 ⟨g2, p⟩ fun h' eb => ⟨rfl, I.turned (t' := s.toks) (fun b o hb q => eb b o hb q) f0 f1 f3 f4 f5⟩
  self := fun A n s Q E s1 h => let ⟨⟨_, g1⟩, _⟩ := s1; wpAny_pyIter_enum g1 h
def iEnumA (K : PySem.W.Frag) (ta : TA) : TI := fun σ H R => ta σ H fun vs H1 => ∃ a xs, vs = [.ref a] ∧ ((SqL K H1 a xs ∧ R (Ite K a) H1) ∨ (SqT K H1 a xs ∧ R (IteT K a) H1))
theorem piEnumA {X : Cx} {e : Expr} {ta : TA} {p pos tpos : Pos} {elts : List Expr} {kk : Nat} (hg : Gl X "enumerate") (hm : X.mg "enumerate" = none) (ha : PA X [e] ta) (hs : starEach [e] X.env = [(false, eval e X.env)] := by rfl) :
    PI X (.Tuple elts kk tpos) (.Call (.Name "enumerate" p) [e] [] pos) (iEnumA X.K ta) := by
  refine ⟨fun pins s σ H R I hh => ?_⟩
  refine Call_ (ld_blt I hg hm boot_enumerate (PyProof.Rows.callWith_type1 (thn (ha.run pos pins s σ H _ I hh) fun us z ⟨vs, H1, I1, r1, q1⟩ => ?_) hs rfl))
  obtain ⟨a, xs, ex, q1⟩ := q1
  subst ex
  cases r1 with
  | cons r rr =>
    cases rr
    cases r
    have fps : ∀ b, b ∈ [z.heap.objs.size + 1, z.heap.objs.size] → FpOk X pins H1 b := fun b hb => by
      have hle : z.heap.objs.size ≤ b := by
        have e' : b = z.heap.objs.size + 1 ∨ b = z.heap.objs.size := by simpa using hb
        omega
      exact I1.fpOk hle (I1.hok.fresh hle)
    rcases q1 with ⟨hq, q⟩ | ⟨hq, q⟩
    · obtain ⟨its, rv, p', hz⟩ := I1.list hq
      refine callEnumOne (begins_list a its.toArray) p'.isList fun h' he hit hk => wpAny_pyIter_enum he ?_
      have I2 : Inv X pins σ H1 { z with heap := h' } := I1.kept (t' := z.toks) hk
      exact ⟨z.heap.objs.size + 1, [z.heap.objs.size + 1, z.heap.objs.size], _, _, H1, rfl, I2, turn_enum a _ _, ⟨⟨.none, he⟩, ⟨_, hit, rfl, rfl⟩, Nat.succ_ne_self _⟩, fps, q⟩
    · obtain ⟨its, rv, p', hz⟩ := I1.tuple hq
      have la : a < z.heap.objs.size := by
        obtain ⟨_, q, _⟩ := p'
        exact Heap.lt_size q
      refine callEnumOne (begins_tuple a its.toArray) p' fun h' he hit hk => wpAny_pyIter_enum he ?_
      have I2 : Inv X pins σ H1 { z with heap := h' } := I1.kept (t' := z.toks) hk
      exact ⟨z.heap.objs.size + 1, [z.heap.objs.size + 1, z.heap.objs.size], _, _, H1, rfl, I2, turnEnumT a _ _, ⟨⟨.none, he⟩, ⟨_, hit, rfl, rfl⟩, Nat.succ_ne_self _, Nat.ne_of_lt la, Nat.ne_of_lt (Nat.lt_succ_of_lt la)⟩, fps, q⟩
end DL

namespace DL
open PySem PySem.Spec PyProof.Rows L2
/-! ### what is walked -/
def SrcOk : List (Nat × List D) → Sto → Prop
  | [], _ => True
  | p :: r, st => st[p.1]? = some p.2 ∧ SrcOk r st
structure DWk (K : PySem.W.Frag) (J : It) (w : Wd) (xs : List D) (src : List (Nat × List D)) : Prop where
  goes : ∀ (i : Nat) (w1 : Wd) (st1 : Sto) (H1 : Hp), i < xs.length → Le0 w w1 → Wld K w1 st1 H1 → SrcOk src st1 → J.go i H1
  stops : ∀ (w1 : Wd) (st1 : Sto) (H1 : Hp), Le0 w w1 → Wld K w1 st1 H1 → SrcOk src st1 → J.stop xs.length H1
  yields : ∀ (i : Nat) (w1 : Wd) (st1 : Sto) (H1 : Hp) (v : V) (H2 : Hp), i < xs.length → Le0 w w1 → Wld K w1 st1 H1 → SrcOk src st1 → J.yld i H1 v H2 →
    ∃ (w2 : Wd) (d : D), Le w1 w2 ∧ Wld K w2 st1 H2 ∧ xs[i]? = some d ∧ Rep K w2 d v
abbrev DIk := List D → List (Nat × List D) → Sto → Prop
abbrev DI := Env → Sto → DIk → Prop
def tDI (K : PySem.W.Frag) (t : DI) : TI := fun σ H R => ∃ w env st kk, Wld K w st H ∧ EnvR K w env σ ∧ t env st kk ∧ ∀ xs src st' w' H' J, kk xs src st' → Le w w' → Wld K w' st' H' → DWk K J w' xs src → R J H'
abbrev PDI (X : Cx) (tg e : Expr) (t : DI) : Prop := PI X tg e (tDI X.K t)
theorem _root_.L2.PI.wk {X : Cx} {tg e : Expr} {t t' : TI} (h : PI X tg e t) (i : ∀ σ H R, t' σ H R → t σ H R) : PI X tg e t' := ⟨fun pins s σ H R I q => h.run pins s σ H R I (i σ H R q)⟩
def srcOf (d : D) (xs : List D) : List (Nat × List D) := match d with
  | .obj i => [(i, xs)]
  | _ => []
section
variable {K : PySem.W.Frag} {w w' w1 : Wd} {st st1 : Sto} {H H1 : Hp}
theorem src_seq {d : D} {a : Addr} {xs : List D} (R : Rep K w d (.ref a)) (e : deref st d = .lst xs) (l : Le0 w w1) (W1 : Wld K w1 st1 H1) (s : SrcOk (srcOf d xs) st1) : ∃ vs, SqL K H1 a vs ∧ Reps K w1 xs vs := by
  have e1 : deref st1 d = .lst xs := by
    cases d with
    | obj i =>
      have s' : st1[i]? = some xs := s.1
      show (match st1[i]? with | some xs => D.lst xs | none => D.obj i) = .lst xs
      rw [s']
    | _ => exact e
  obtain ⟨a', vs, ea, q, r, _⟩ := rep_lst W1 (Rep.mono' l.same l.pre _ _ R) e1
  cases ea
  exact ⟨vs, q, r⟩
theorem tup_seq {d : D} {a : Addr} {xs : List D} (R : Rep K w d (.ref a)) (e : deref st d = .tup xs) (l : Le0 w w1) (W1 : Wld K w1 st1 H1) : ∃ vs, SqT K H1 a vs ∧ Reps K w1 xs vs := by
  obtain ⟨a', vs, ea, q, r, _⟩ := rep_tup W1 (Rep.mono' l.same l.pre _ _ R) (deref_tups e st1)
  cases ea
  exact ⟨vs, q, r⟩
theorem wk_list {d : D} {a : Addr} {xs : List D} (R : Rep K w d (.ref a)) (e : deref st d = .lst xs) : DWk K (Itl K a) w xs (srcOf d xs) where
  goes := fun i w1 st1 H1 hi l W1 s => by
    obtain ⟨vs, q, r⟩ := src_seq R e l W1 s
    exact (walk_list (xs := vs)).goes i H1 (by rw [r.length]; exact hi) q
  stops := fun w1 st1 H1 l W1 s => by
    obtain ⟨vs, q, r⟩ := src_seq R e l W1 s
    rw [← r.length]
    exact (walk_list (xs := vs)).stops H1 q
  yields := fun i w1 st1 H1 v H2 hi l W1 s y => by
    obtain ⟨vs, q, r⟩ := src_seq R e l W1 s
    obtain ⟨rfl, h⟩ := (walk_list (xs := vs)).yields i H1 v H2 (by rw [r.length]; exact hi) q y
    obtain ⟨d', h1, h2⟩ := r.getv h
    exact ⟨w1, d', .refl _, W1, h1, h2⟩
theorem wk_tup {d : D} {a : Addr} {xs : List D} (R : Rep K w d (.ref a)) (e : deref st d = .tup xs) : DWk K (Itt K a) w xs [] where
  goes := fun i w1 st1 H1 hi l W1 s => by
    obtain ⟨vs, q, r⟩ := tup_seq R e l W1
    exact (walk_tup (xs := vs)).goes i H1 (by rw [r.length]; exact hi) q
  stops := fun w1 st1 H1 l W1 s => by
    obtain ⟨vs, q, r⟩ := tup_seq R e l W1
    rw [← r.length]
    exact (walk_tup (xs := vs)).stops H1 q
  yields := fun i w1 st1 H1 v H2 hi l W1 s y => by
    obtain ⟨vs, q, r⟩ := tup_seq R e l W1
    obtain ⟨rfl, h⟩ := (walk_tup (xs := vs)).yields i H1 v H2 (by rw [r.length]; exact hi) q y
    obtain ⟨d', h1, h2⟩ := r.getv h
    exact ⟨w1, d', .refl _, W1, h1, h2⟩
def signs (z : Str) : List D := z.cps.toList.map fun c => .str ⟨#[c]⟩
theorem signs_length (z : Str) : (signs z).length = z.cps.size := by unfold signs; rw [List.length_map, Array.length_toList]
theorem wk_str {z : Str} : DWk K (Its z) w (signs z) [] where
  goes := fun i w1 st1 H1 hi l W1 s => walk_str.goes i H1 (by rw [signs_length] at hi; exact hi) trivial
  stops := fun w1 st1 H1 l W1 s => by
    rw [signs_length]
    exact walk_str.stops H1 trivial
  yields := fun i w1 st1 H1 v H2 hi l W1 s y => by
    rw [signs_length] at hi
    obtain ⟨rfl, c, h1, rfl⟩ := walk_str.yields i H1 v H2 hi trivial y
    refine ⟨w1, .str ⟨#[c]⟩, .refl _, W1, ?_, rep_str⟩
    unfold signs
    rw [List.getElem?_map, Array.getElem?_toList, h1]
    rfl
/-- lo, lo + 1, .. -/
def rangeD (lo : Int) (n : Nat) : List D := (List.range n).map fun i => .int (lo + (i : Nat))
theorem rangeD_length (lo : Int) (n : Nat) : (rangeD lo n).length = n := by simp [rangeD]
theorem wk_range {lo : Int} {n : Nat} : DWk K (Itr lo n) w (rangeD lo n) [] where
  goes := fun i w1 st1 H1 hi l W1 s => walk_range.goes i H1 (by rw [rangeD_length] at hi; exact hi) trivial
  stops := fun w1 st1 H1 l W1 s => by
    rw [rangeD_length]
    exact walk_range.stops H1 trivial
  yields := fun i w1 st1 H1 v H2 hi l W1 s y => by
    rw [rangeD_length] at hi
    obtain ⟨rfl, rfl⟩ := walk_range.yields i H1 v H2 hi trivial y
    refine ⟨w1, .int (lo + (i : Nat)), .refl _, W1, ?_, rep_int⟩
    unfold rangeD
    rw [List.getElem?_map, List.getElem?_range hi]
    rfl
def stepD (lo c : Int) (n : Nat) : List D := (List.range n).map fun i => .int (lo + (i : Nat) * c)
theorem stepD_length (lo c : Int) (n : Nat) : (stepD lo c n).length = n := by simp [stepD]
theorem wk_step {lo c : Int} {n : Nat} : DWk K (Itc lo c n) w (stepD lo c n) [] where
  goes := fun i w1 st1 H1 hi l W1 s => walk_rangeC.goes i H1 (by rw [stepD_length] at hi; exact hi) trivial
  stops := fun w1 st1 H1 l W1 s => by
    rw [stepD_length]
    exact walk_rangeC.stops H1 trivial
  yields := fun i w1 st1 H1 v H2 hi l W1 s y => by
    rw [stepD_length] at hi
    obtain ⟨rfl, rfl⟩ := walk_rangeC.yields i H1 v H2 hi trivial y
    refine ⟨w1, .int (lo + (i : Nat) * c), .refl _, W1, ?_, rep_int⟩
    unfold stepD
    rw [List.getElem?_map, List.getElem?_range hi]
    rfl
/-- a new pair of what is represented -/
theorem pair_put (W : Wld K w st H) {T : Addr} {x y : V} {d e : D} (hT : H T = none) (r1 : Rep K w d x) (r2 : Rep K w e y) :
    ∃ w2, Le w w2 ∧ Wld K w2 st (upd H T (.tup [x, y])) ∧ Rep K w2 (.tup [d, e]) (.ref T) := by
  have l := Le.put (w := w) (o := .tup [x, y]) (W.free hT)
  refine ⟨w.put T (.tup [x, y]), l, W.put hT (by show 2 ≤ sizeLine; decide), ?_⟩
  simp only [Rep]
  exact ⟨T, [x, y], rfl, upd_same, .cons (Rep.mono l _ _ r1) (.cons (Rep.mono l _ _ r2) .nil)⟩
def enumD : Nat → List D → List D
  | _, [] => []
  | n, x :: r => .tup [.int (n : Nat), x] :: enumD (n + 1) r
theorem enumD_length : ∀ (n : Nat) (xs : List D), (enumD n xs).length = xs.length
  | _, [] => rfl
  | n, x :: r => by simp [enumD, enumD_length (n + 1) r]
theorem enumD_get : ∀ (n : Nat) (xs : List D) (i : Nat) (d : D), xs[i]? = some d → (enumD n xs)[i]? = some (.tup [.int ((n + i : Nat) : Int), d])
  | _, [], _, _, h => by simp at h
  | n, x :: r, 0, d, h => by
    simp at h
    subst h
    simp [enumD]
  | n, x :: r, i + 1, d, h => by
    have := enumD_get (n + 1) r i d (by simpa using h)
    simp only [enumD, List.getElem?_cons_succ]
    rw [this]
    have e : n + 1 + i = n + (i + 1) := by omega
    rw [e]
theorem wk_enum {d : D} {a : Addr} {xs : List D} (R : Rep K w d (.ref a)) (e : deref st d = .lst xs) : DWk K (Ite K a) w (enumD 0 xs) (srcOf d xs) where
  goes := fun i w1 st1 H1 hi l W1 s => by
    obtain ⟨vs, q, r⟩ := src_seq R e l W1 s
    rw [enumD_length] at hi
    exact (walk_enum (xs := vs)).goes i H1 (by rw [r.length]; exact hi) q
  stops := fun w1 st1 H1 l W1 s => by
    obtain ⟨vs, q, r⟩ := src_seq R e l W1 s
    rw [enumD_length, ← r.length]
    exact (walk_enum (xs := vs)).stops H1 q
  yields := fun i w1 st1 H1 v H2 hi l W1 s y => by
    obtain ⟨vs, q, r⟩ := src_seq R e l W1 s
    rw [enumD_length] at hi
    obtain ⟨T, x, y, rfl, hT, rfl, h1, h2⟩ := (walk_enum (xs := vs)).yields i H1 v H2 (by rw [r.length]; exact hi) q y
    cases h1
    obtain ⟨d', g1, g2⟩ := r.getv h2
    obtain ⟨w2, l2, W2, R2⟩ := pair_put W1 hT (rep_int (a := (i : Nat))) g2
    refine ⟨w2, _, l2, W2, ?_, R2⟩
    rw [enumD_get 0 xs i d' g1, Nat.zero_add]
theorem wk_enumT {d : D} {a : Addr} {xs : List D} (R : Rep K w d (.ref a)) (e : deref st d = .tup xs) : DWk K (IteT K a) w (enumD 0 xs) [] where
  goes := fun i w1 st1 H1 hi l W1 s => by
    obtain ⟨vs, q, r⟩ := tup_seq R e l W1
    rw [enumD_length] at hi
    exact ⟨vs, vs[i]'(by rw [r.length]; exact hi), q, List.getElem?_eq_getElem _⟩
  stops := fun w1 st1 H1 l W1 s => by
    obtain ⟨vs, q, r⟩ := tup_seq R e l W1
    rw [enumD_length, ← r.length]
    exact ⟨vs, q, rfl⟩
  yields := fun i w1 st1 H1 v H2 hi l W1 s y => by
    obtain ⟨vs, q, r⟩ := tup_seq R e l W1
    rw [enumD_length] at hi
    obtain ⟨T, y, rfl, hT, rfl, h2⟩ := y
    obtain ⟨d', g1, g2⟩ := r.getv (h2 vs q)
    obtain ⟨w2, l2, W2, R2⟩ := pair_put W1 hT (rep_int (a := (i : Nat))) g2
    refine ⟨w2, _, l2, W2, ?_, R2⟩
    rw [enumD_get 0 xs i d' g1, Nat.zero_add]
def zipD : List D → List D → List D
  | x :: r, y :: s => .tup [x, y] :: zipD r s
  | _, _ => []
theorem zipD_length : ∀ (xs ys : List D), (zipD xs ys).length = min xs.length ys.length
  | [], _ => by simp [zipD]
  | _ :: _, [] => by simp [zipD]
  | x :: r, y :: s => by simp only [zipD, List.length_cons, zipD_length r s]; omega
theorem zipD_get : ∀ (xs ys : List D) (i : Nat) (d e : D), xs[i]? = some d → ys[i]? = some e → (zipD xs ys)[i]? = some (.tup [d, e])
  | [], _, _, _, _, h, _ => by simp at h
  | _ :: _, [], _, _, _, _, h => by simp at h
  | x :: r, y :: s, 0, d, e, h, g => by
    simp at h g
    subst h g
    simp [zipD]
  | x :: r, y :: s, i + 1, d, e, h, g => by
    simp only [zipD, List.getElem?_cons_succ]
    exact zipD_get r s i d e (by simpa using h) (by simpa using g)
theorem SrcOk.split {a b : List (Nat × List D)} {st : Sto} : SrcOk (a ++ b) st → SrcOk a st ∧ SrcOk b st := by
  induction a with
  | nil => intro h; exact ⟨trivial, h⟩
  | cons p r ih => intro h; exact ⟨⟨h.1, (ih h.2).1⟩, (ih h.2).2⟩
theorem wk_zip {d e : D} {a b : Addr} {xs ys : List D} (R : Rep K w d (.ref a)) (hd : deref st d = .lst xs) (R' : Rep K w e (.ref b)) (he : deref st e = .lst ys) : DWk K (Itz K a b) w (zipD xs ys) (srcOf d xs ++ srcOf e ys) where
  goes := fun i w1 st1 H1 hi l W1 s => by
    obtain ⟨vs, q, r⟩ := src_seq R hd l W1 s.split.1
    obtain ⟨us, q', r'⟩ := src_seq R' he l W1 s.split.2
    rw [zipD_length, ← r.length, ← r'.length] at hi
    exact (walk_zip (xs := vs) (ys := us) rfl).goes i H1 hi ⟨q, q'⟩
  stops := fun w1 st1 H1 l W1 s => by
    obtain ⟨vs, q, r⟩ := src_seq R hd l W1 s.split.1
    obtain ⟨us, q', r'⟩ := src_seq R' he l W1 s.split.2
    rw [zipD_length, ← r.length, ← r'.length]
    exact (walk_zip (xs := vs) (ys := us) rfl).stops H1 ⟨q, q'⟩
  yields := fun i w1 st1 H1 v H2 hi l W1 s y => by
    obtain ⟨vs, q, r⟩ := src_seq R hd l W1 s.split.1
    obtain ⟨us, q', r'⟩ := src_seq R' he l W1 s.split.2
    rw [zipD_length, ← r.length, ← r'.length] at hi
    obtain ⟨T, x, y, rfl, hT, rfl, h1, h2⟩ := (walk_zip (xs := vs) (ys := us) rfl).yields i H1 v H2 hi ⟨q, q'⟩ y
    obtain ⟨d', g1, g2⟩ := r.getv h1
    obtain ⟨e', g3, g4⟩ := r'.getv h2
    obtain ⟨w2, l2, W2, R2⟩ := pair_put W1 hT g2 g4
    exact ⟨w2, _, l2, W2, zipD_get _ _ _ _ _ g1 g3, R2⟩
theorem wk_zipT {d e : D} {a b : Addr} {xs ys : List D} (R : Rep K w d (.ref a)) (hd : deref st d = .tup xs) (R' : Rep K w e (.ref b)) (he : deref st e = .tup ys) : DWk K (RZ.ItzT K a b) w (zipD xs ys) [] where
  goes := fun i w1 st1 H1 hi l W1 s => by
    obtain ⟨vs, q, r⟩ := tup_seq R hd l W1
    obtain ⟨us, q', r'⟩ := tup_seq R' he l W1
    rw [zipD_length, ← r.length, ← r'.length] at hi
    have h1 : i < vs.length := by omega
    have h2 : i < us.length := by omega
    exact ⟨vs, us, vs[i], us[i], q, q', by simp [h1], by simp [h2]⟩
  stops := fun w1 st1 H1 l W1 s => by
    obtain ⟨vs, q, r⟩ := tup_seq R hd l W1
    obtain ⟨us, q', r'⟩ := tup_seq R' he l W1
    rw [zipD_length, ← r.length, ← r'.length]
    exact ⟨vs, us, q, q', by omega⟩
  yields := fun i w1 st1 H1 v H2 hi l W1 s y => by
    obtain ⟨vs, q, r⟩ := tup_seq R hd l W1
    obtain ⟨us, q', r'⟩ := tup_seq R' he l W1
    obtain ⟨T, x, y, rfl, hT, rfl, h1, h2⟩ := y
    obtain ⟨d', g1, g2⟩ := r.getv (h1 vs q)
    obtain ⟨e', g3, g4⟩ := r'.getv (h2 us q')
    obtain ⟨w2, l2, W2, R2⟩ := pair_put W1 hT g2 g4
    exact ⟨w2, _, l2, W2, zipD_get _ _ _ _ _ g1 g3, R2⟩
end
section
variable {X : Cx} {tg e e2 : Expr} {pos p : Pos} {ta tb : DE}
def rIt (K : PySem.W.Frag) (x : V) (H : Hp) (R : It → Hp → Prop) : Prop :=
  (∃ a xs, x = .ref a ∧ SqL K H a xs ∧ R (Itl K a) H) ∨ (∃ a xs, x = .ref a ∧ SqT K H a xs ∧ R (Itt K a) H) ∨ ∃ z, x = .str z ∧ R (Its z) H
theorem pi_any {tl : TE} (hl : PE X e tl) : PI X tg e (fun σ H R => tl σ H fun x H1 => rIt X.K x H1 R) := by
  refine ⟨fun pins s σ H R I h => thn (hl.run pins s σ H _ I h) fun v s1 ⟨x, H1, I1, r1, q1⟩ => ?_⟩
  rcases q1 with ⟨a, xs, rfl, hq, q⟩ | ⟨a, xs, rfl, hq, q⟩ | ⟨z, rfl, q⟩
  · cases r1
    obtain ⟨its, rv, pl, hz⟩ := I1.list hq
    exact wpAny_pyIter_list pl.isList (pi_one (tk := s1.toks) I1 _ (turn_list a _) ⟨_, Heap.get?_push_size _ rfl, rfl, rfl⟩ q)
  · cases r1
    obtain ⟨its, rv, pl, hz⟩ := I1.tuple hq
    exact wpAny_pyIter_tuple (show s1.heap.IsTuple a its.toArray from pl) (pi_one (tk := s1.toks) I1 _ (turn_tuple a _) ⟨_, Heap.get?_push_size _ rfl, rfl, rfl⟩ q)
  · obtain ⟨t, rfl⟩ := r1
    by_cases ha : z.cps.all (· < 128) = true
    · exact wpAny_pyIter_ascii ha (pi_one (tk := s1.toks) I1 _ (turn_str _ z t "str_ascii_iterator" (.inl rfl)) ⟨_, Heap.get?_push_size _ rfl, rfl, rfl⟩ q)
    · exact wpAny_pyIter_wide (by simpa using ha) (pi_one (tk := s1.toks) I1 _ (turn_str _ z t "str_iterator" (.inr rfl)) ⟨_, Heap.get?_push_size _ rfl, rfl, rfl⟩ q)
def dIter (t : DE) : DI := fun env st kk => t env st fun d s1 => match deref s1 d with
  | .lst xs => xs.length ≤ 16777216 → kk xs (srcOf d xs) s1
  | .tup xs => xs.length ≤ 16777216 → kk xs [] s1
  | .str z => kk (signs z) [] s1
  | _ => False
theorem line_of {n : Nat} (h : n ≤ sizeLine) : n ≤ 16777216 := by rw [sizeLine_eq] at h; exact h
theorem pdi_any (h : PD X e ta) : PDI X tg e (dIter ta) := by
  refine (pi_any h).wk fun σ H R ⟨w, env, st, kk, W, E, h, fo⟩ => ?_
  refine ⟨w, env, st, _, W, E, h, fun d st1 v w1 H1 h1 l1 W1 R1 => ?_⟩
  split at h1
  · rename_i xs hd
    obtain ⟨a, vs, rfl, q, r, n⟩ := rep_lst W1 R1 hd
    exact .inl ⟨a, vs, rfl, q, fo _ _ _ _ _ _ (h1 (by rw [← r.length]; exact line_of n)) l1 W1 (wk_list R1 hd)⟩
  · rename_i xs hd
    obtain ⟨a, vs, rfl, q, r, n⟩ := rep_tup W1 R1 hd
    exact .inr (.inl ⟨a, vs, rfl, q, fo _ _ _ _ _ _ (h1 (by rw [← r.length]; exact line_of n)) l1 W1 (wk_tup R1 hd)⟩)
  · rename_i z hd
    have e0 := deref_self hd (fun _ z => by cases z) (fun _ z => by cases z)
    subst e0
    simp only [Rep] at R1
    exact .inr (.inr ⟨z, R1, fo _ _ _ _ _ _ h1 l1 W1 wk_str⟩)
  · exact h1.elim
def dRng1 (t : DE) : DI := fun env st kk => t env st fun d s1 => match d with
  | .int j => (-(2 ^ 62) ≤ j ∧ j < 2 ^ 62) ∧ kk (rangeD 0 j.toNat) [] s1
  | _ => False
def dRng2 (t u : DE) : DI := fun env st kk => t env st fun d s1 => u env s1 fun e s2 => match d, e with
  | .int i, .int j => (-(2 ^ 62) ≤ i ∧ i < 2 ^ 62 ∧ -(2 ^ 62) ≤ j ∧ j < 2 ^ 62) ∧ kk (rangeD i (j - i).toNat) [] s2
  | _, _ => False
theorem pdi_range1 (hm : X.mg "range" = none) (ha : PD X e ta) (hg : Gl X "range" := by rfl) (hs : starEach [e] X.env = [(false, eval e X.env)] := by rfl) : PDI X tg (.Call (.Name "range" p) [e] [] pos) (dRng1 ta) := by
  refine (pi_range1 hg hm (pa_cons ha pa_nil hs) hs).wk fun σ H R ⟨w, env, st, kk, W, E, h, fo⟩ => ?_
  refine ⟨w, env, st, _, W, E, h, fun d st1 v w1 H1 h1 l1 W1 R1 => ?_⟩
  split at h1
  · simp only [Rep] at R1
    subst R1
    exact ⟨_, rfl, h1.1.1, h1.1.2, fo _ _ _ _ _ _ h1.2 l1 W1 wk_range⟩
  · exact h1.elim
theorem pdi_range2 (hm : X.mg "range" = none) (ha : PD X e ta) (hb : PD X e2 tb) (hg : Gl X "range" := by rfl) (hs : starEach [e, e2] X.env = [(false, eval e X.env), (false, eval e2 X.env)] := by rfl) (hs2 : starEach [e2] X.env = [(false, eval e2 X.env)] := by rfl) : PDI X tg (.Call (.Name "range" p) [e, e2] [] pos) (dRng2 ta tb) := by
  refine (pi_range2 hg hm (pa_cons ha (pa_cons hb pa_nil hs2) (hs.trans (by rw [hs2]))) hs hs2).wk fun σ H R ⟨w, env, st, kk, W, E, h, fo⟩ => ?_
  refine ⟨w, env, st, _, W, E, h, fun d st1 v w1 H1 h1 l1 W1 R1 => ⟨w1, env, st1, _, W1, E.mono l1, h1, fun e' st2 u w2 H2 h2 l2 W2 R2 => ?_⟩⟩
  split at h2
  · simp only [Rep] at R1 R2
    subst R1 R2
    exact ⟨_, _, rfl, h2.1, fo _ _ _ _ _ _ h2.2 (l1.trans l2) W2 wk_range⟩
  · exact h2.elim
def dEnum (t : DE) : DI := fun env st kk => t env st fun d s1 => match deref s1 d with
  | .lst xs => xs.length ≤ 16777216 → kk (enumD 0 xs) (srcOf d xs) s1
  | .tup xs => xs.length ≤ 16777216 → kk (enumD 0 xs) [] s1
  | _ => False
theorem pdi_enum {elts : List Expr} {k : Nat} {tpos : Pos} (hm : X.mg "enumerate" = none) (ha : PD X e ta) (hg : Gl X "enumerate" := by rfl) (hs : starEach [e] X.env = [(false, eval e X.env)] := by rfl) :
    PDI X (.Tuple elts k tpos) (.Call (.Name "enumerate" p) [e] [] pos) (dEnum ta) := by
  refine (piEnumA hg hm (pa_cons ha pa_nil hs) hs).wk fun σ H R ⟨w, env, st, kk, W, E, h, fo⟩ => ?_
  refine ⟨w, env, st, _, W, E, h, fun d st1 v w1 H1 h1 l1 W1 Rv => ?_⟩
  split at h1
  · rename_i xs hd
    obtain ⟨a, vs, rfl, q, r, n⟩ := rep_lst W1 Rv hd
    exact ⟨a, vs, rfl, .inl ⟨q, fo _ _ _ _ _ _ (h1 (by rw [← r.length]; exact line_of n)) l1 W1 (wk_enum Rv hd)⟩⟩
  · rename_i xs hd
    obtain ⟨a, vs, rfl, q, r, n⟩ := rep_tup W1 Rv hd
    exact ⟨a, vs, rfl, .inr ⟨q, fo _ _ _ _ _ _ (h1 (by rw [← r.length]; exact line_of n)) l1 W1 (wk_enumT Rv hd)⟩⟩
  · exact h1.elim
def dZip (t u : DE) : DI := fun env st kk => t env st fun d s1 => u env s1 fun e s2 => match deref s2 d, deref s2 e with
  | .lst xs, .lst ys => xs.length ≤ 16777216 → kk (zipD xs ys) (srcOf d xs ++ srcOf e ys) s2
  | .tup xs, .tup ys => xs.length ≤ 16777216 → kk (zipD xs ys) [] s2
  | _, _ => False
theorem pdi_zip {elts : List Expr} {k : Nat} {tpos : Pos} (hm : X.mg "zip" = none) (ha : PD X e ta) (hb : PD X e2 tb) (hg : Gl X "zip" := by rfl) (hs : starEach [e, e2] X.env = (false, eval e X.env) :: starEach [e2] X.env := by rfl) (hpl : (backTo pos (starEach [e2] X.env)).any (·.1) = false := by rfl) (hs2 : starEach [e2] X.env = [(false, eval e2 X.env)] := by rfl) :
    PDI X (.Tuple elts k tpos) (.Call (.Name "zip" p) [e, e2] [] pos) (dZip ta tb) := by
  refine (RZ.pi_zipA hg hm (pa_cons ha (pa_cons hb pa_nil hs2) hs) hs hpl).wk fun σ H R ⟨w, env, st, kk, W, E, h, fo⟩ => ?_
  refine ⟨w, env, st, _, W, E, h, fun d st1 v w1 H1 h1 l1 W1 R1 => ⟨w1, env, st1, _, W1, E.mono l1, h1, fun e' st2 u w2 H2 h2 l2 W2 R2 => ?_⟩⟩
  have R1' := Rep.mono l2 _ _ R1
  split at h2
  · rename_i xs ys hd he
    obtain ⟨a, vs, rfl, q, r, n⟩ := rep_lst W2 R1' hd
    obtain ⟨b, us, rfl, q', r', n'⟩ := rep_lst W2 R2 he
    exact ⟨a, b, vs, us, rfl, .inl ⟨q, q', fo _ _ _ _ _ _ (h2 (by rw [← r.length]; exact line_of n)) (l1.trans l2) W2 (wk_zip R1' hd R2 he)⟩⟩
  · rename_i xs ys hd he
    obtain ⟨a, vs, rfl, q, r, n⟩ := rep_tup W2 R1' hd
    obtain ⟨b, us, rfl, q', r', n'⟩ := rep_tup W2 R2 he
    exact ⟨a, b, vs, us, rfl, .inr ⟨q, q', fo _ _ _ _ _ _ (h2 (by rw [← r.length]; exact line_of n)) (l1.trans l2) W2 (wk_zipT R1' hd R2 he)⟩⟩
  · exact h2.elim

/-! ### loops -/
def goFor (src : List (Nat × List D)) (g : DG) (b : DS) (E : DEnds) : List D → Env → Sto → Prop
  | [], env, st => SrcOk src st ∧ E.nx env st
  | x :: r, env, st => SrcOk src st ∧ g x env st fun env' st' => b { E with nx := fun env2 st2 => goFor src g b E r env2 st2 } env' st'
def dFor (di : DI) (g : DG) (b : DS) : DS := fun E env st => di env st fun xs src s1 => goFor src g b E xs env s1
theorem pds_for {iter : Expr} {body : List Stmt} {di : DI} {g : DG} {b : DS} (hp : PassesOwn (model X.prog X.w) X.A X.env X.xe) (hc : X.calm = true) (hi : PDI X tg iter di) (hg : PDG X tg g) (hb : PDSs X body b)
    (hs : ∀ x, foldedSetIterable iter X.env x = pure x := by intro _; rfl) : PDS X (.For tg iter body [] pos) (dFor di g b) := by
  refine (ps_for hp hc hi hg hb hs).wk fun Ed σ H ⟨w, env, st, E0, W, E, h, fn, fr⟩ => ?_
  refine ⟨w, env, st, _, W, E, h, fun xs src st1 w1 H1 J h1 l1 W1 wk => ?_⟩
  refine ⟨fun i m σ2 H2 => m = xs.length - i ∧ i ≤ xs.length ∧ ∃ w2 env2 st2, Le w1 w2 ∧ Wld X.K w2 st2 H2 ∧ EnvR X.K w2 env2 σ2 ∧ goFor src g b E0 (xs.drop i) env2 st2,
    ⟨xs.length, by simp, Nat.zero_le _, w1, env, st1, .refl _, W1, E.mono l1, by simpa using h1⟩, ?_⟩
  rintro i m σ2 H2 ⟨rfl, hi, w2, env2, st2, l2, W2, E2, q⟩
  by_cases hlt : i < xs.length
  · rw [List.drop_eq_getElem_cons hlt] at q
    obtain ⟨so, q⟩ := q
    refine .inr ⟨wk.goes i w2 st2 H2 hlt l2.toLe0 W2 so, fun σ' H' => ∃ w3 env3 st3, Le w1 w3 ∧ Wld X.K w3 st3 H' ∧ EnvR X.K w3 env3 σ' ∧ goFor src g b E0 (xs.drop (i + 1)) env3 st3, fun σ' H' pv => ⟨xs.length - (i + 1), by omega, rfl, hlt, pv⟩, fun v H3 y => ?_⟩
    obtain ⟨w3, d, l3, W3, e3, R3⟩ := wk.yields i w2 st2 H2 v H3 hlt l2.toLe0 W2 so y
    have ed : d = xs[i] := by
      rw [List.getElem?_eq_getElem hlt] at e3
      exact (Option.some.inj e3).symm
    rw [← ed] at q
    refine ⟨w3, env2, st2, d, _, W3, E2.mono l3, R3, q, fun env4 st4 σ4 w4 H4 h4 l4 W4 E4 => ?_⟩
    have l14 := (l2.trans l3).trans l4
    exact ⟨w4, env4, st4, _, W4, E4, h4, fun env5 st5 σ5 w5 H5 h5 l5 W5 E5 => ⟨w5, env5, st5, l14.trans l5, W5, E5, h5⟩, fr.le (l1.trans l14)⟩
  · have hie : i = xs.length := by omega
    subst hie
    rw [List.drop_length] at q
    exact .inl ⟨wk.stops w2 st2 H2 l2.toLe0 W2 q.1, fn _ _ _ _ _ q.2 (l1.trans l2) W2 E2⟩
def dWhile (c : DT) (b : DS) : DS := fun E env st => ∃ I : Nat → Env → Sto → Prop, (∃ m, I m env st) ∧ ∀ m env st, I m env st →
  c env st fun k s1 => if k = true then b { E with nx := fun env2 st2 => ∃ m', m' < m ∧ I m' env2 st2 } env s1 else E.nx env s1
theorem pds_while {c : Expr} {body : List Stmt} {tc : DT} {b : DS} (hp : PassesOwn (model X.prog X.w) X.A X.env X.xe) (hc : PDT X c tc) (hb : PDSs X body b) : PDS X (.While c body [] pos) (dWhile tc b) := by
  refine (ps_while hp hc hb).wk fun Ed σ H ⟨w, env, st, E0, W, E, ⟨I, ⟨m0, h0⟩, turn⟩, fn, fr⟩ => ?_
  refine ⟨fun m σ2 H2 => ∃ w2 env2 st2, Le w w2 ∧ Wld X.K w2 st2 H2 ∧ EnvR X.K w2 env2 σ2 ∧ I m env2 st2, ⟨m0, w, env, st, .refl _, W, E, h0⟩, ?_⟩
  rintro m σ2 H2 ⟨w2, env2, st2, l2, W2, E2, q⟩
  refine ⟨w2, env2, st2, _, W2, E2, turn m env2 st2 q, fun k st3 w3 H3 h3 l3 W3 => ?_⟩
  cases k with
  | true =>
    simp only [↓reduceIte] at h3 ⊢
    refine ⟨fun σ' H' => ∃ m', m' < m ∧ ∃ w4 env4 st4, Le w w4 ∧ Wld X.K w4 st4 H' ∧ EnvR X.K w4 env4 σ' ∧ I m' env4 st4, fun σ' H' pv => pv, ?_⟩
    exact ⟨w3, env2, st3, _, W3, E2.mono l3, h3, fun env5 st5 σ5 w5 H5 ⟨m', hm, h5⟩ l5 W5 E5 => ⟨m', hm, w5, env5, st5, (l2.trans l3).trans l5, W5, E5, h5⟩, fr.le (l2.trans l3)⟩
  | false =>
    simp only [Bool.false_eq_true, ↓reduceIte] at h3 ⊢
    exact fn _ _ _ _ _ h3 (l2.trans l3) W3 (E2.mono l3)

/-! ### list comprehensions -/
def wipeE (env : Env) : List Nat → Env
  | [] => env
  | v :: vs => (wipeE env vs).set v none
theorem EnvR.wipe {K : PySem.W.Frag} {w : Wd} {env : Env} {σ : L2.St} (h : EnvR K w env σ) : ∀ vs : List Nat, EnvR K w (wipeE env vs) (wipe σ vs)
  | [] => h
  | v :: vs => (h.wipe vs).unset v
def goLc (src : List (Nat × List D)) (g : DG) (tt : DT) (te : DE) (vs : List Nat) (env : Env) (k : List D → Sto → Prop) : List D → List D → Sto → Prop
  | [], acc, st => SrcOk src st ∧ k acc st
  | x :: r, acc, st => SrcOk src st ∧ g x (wipeE env vs) st fun env' st' => tt env' st' fun b s1 =>
      if b = true then te env' s1 fun d s2 => goLc src g tt te vs env k r (acc ++ [d]) s2 else goLc src g tt te vs env k r acc s1
/-- a comprehension's list: nobody changes it -/
def dLc (di : DI) (g : DG) (tt : DT) (te : DE) (vs : List Nat) : DE := fun env st k => di env st fun xs src s1 => xs.length ≤ 16777216 ∧ goLc src g tt te vs env (fun acc s2 => k (.lst acc) s2) xs [] s1
/-- .. a list of the store -/
def dLcNew (di : DI) (g : DG) (tt : DT) (te : DE) (vs : List Nat) : DE := fun env st k => di env st fun xs src s1 => xs.length ≤ 16777216 ∧ goLc src g tt te vs env (fun acc s2 => k (.obj s2.length) (s2 ++ [acc])) xs [] s1
theorem Reps.rh {K : PySem.W.Frag} {w : Wd} {ds : List D} {vs : List V} (h : Reps K w ds vs) (l : List (Addr × List V)) : Reps K ⟨w.G, w.as, l, w.dk⟩ ds vs := Reps.mono' (w := w) (w' := ⟨w.G, w.as, l, w.dk⟩) (Same.refl w.G) (.eq rfl rfl) _ _ h
theorem Rep.rh {K : PySem.W.Frag} {w : Wd} {d : D} {v : V} (h : Rep K w d v) (l : List (Addr × List V)) : Rep K ⟨w.G, w.as, l, w.dk⟩ d v := Rep.mono' (w := w) (w' := ⟨w.G, w.as, l, w.dk⟩) (Same.refl w.G) (.eq rfl rfl) _ _ h
theorem EntR.rh {K : PySem.W.Frag} {w : Wd} {k : Option Bool} {xs : List D} {o : HO} (h : EntR K w k xs o) (l : List (Addr × List V)) : EntR K ⟨w.G, w.as, l, w.dk⟩ k xs o := EntR.mono' (w := w) (w' := ⟨w.G, w.as, l, w.dk⟩) (Same.refl w.G) (.eq rfl rfl) h
theorem EntR.rg {K : PySem.W.Frag} {w : Wd} {k : Option Bool} {xs : List D} {o : HO} (h : EntR K w k xs o) {G : Hp} (s : Same w.G G) (l : List (Addr × List V)) : EntR K ⟨G, w.as, l, w.dk⟩ k xs o := EntR.mono' (w := w) (w' := ⟨G, w.as, l, w.dk⟩) s (.eq rfl rfl) h
theorem Reps.rg {K : PySem.W.Frag} {w : Wd} {ds : List D} {vs : List V} (h : Reps K w ds vs) {G : Hp} (s : Same w.G G) (l : List (Addr × List V)) : Reps K ⟨G, w.as, l, w.dk⟩ ds vs := Reps.mono' (w := w) (w' := ⟨G, w.as, l, w.dk⟩) s (.eq rfl rfl) _ _ h
/-- a list in the making is laid -/
theorem Wld.hide {K : PySem.W.Frag} {w : Wd} {st : Sto} {H : Hp} (W : Wld K w st H) {p : Addr} {vs : List V} (h : H p = none) : Wld K ⟨w.G, w.as, (p, vs) :: w.hid, w.dk⟩ st (upd H p (.lst vs)) where
  same := fun b u e => by
    have ne : b ≠ p := fun z => by
      have e' : w.G b = some u := e
      rw [z, W.free h] at e'
      cases e'
    rw [upd_ne ne]
    exact W.same b u e
  len := W.len
  nd := W.nd
  at_ := fun i a e => by
    obtain ⟨g, xs, us, h1, h2, h3⟩ := W.at_ i a e
    have ne : a ≠ p := fun z => by rw [z, h] at h2; cases h2
    exact ⟨g, xs, us, h1, by rw [upd_ne ne]; exact h2, h3.rh _⟩
  small := W.small
  hidd := fun a us m => by
    rcases List.mem_cons.mp m with z | z
    · cases z
      exact ⟨W.free h, W.nas h, upd_same⟩
    · obtain ⟨g, n, h1⟩ := W.hidd a us z
      have ne : a ≠ p := fun z => by rw [z, h] at h1; cases h1
      exact ⟨g, n, by rw [upd_ne ne]; exact h1⟩
  hnd := by
    show (p :: w.hid.map (·.1)).Nodup
    refine List.nodup_cons.mpr ⟨fun m => ?_, W.hnd⟩
    obtain ⟨⟨a, us⟩, m1, m2⟩ := List.mem_map.mp m
    have m2' : a = p := m2
    subst m2'
    have := (W.hidd a us m1).2.2
    rw [h] at this
    cases this
/-- the list in the making has grown -/
theorem Wld.regrow {K : PySem.W.Frag} {w : Wd} {st : Sto} {H : Hp} {p : Addr} {vs us : List V} {r : List (Addr × List V)} (W : Wld K w st H) (hh : w.hid = (p, vs) :: r) : Wld K ⟨w.G, w.as, (p, us) :: r, w.dk⟩ st (upd H p (.lst us)) := by
  obtain ⟨g0, n0, h0⟩ := W.hidd p vs (by rw [hh]; exact List.mem_cons_self)
  have hnd := W.hnd
  rw [hh] at hnd
  have hnd' : (p :: r.map (·.1)).Nodup := hnd
  refine ⟨fun b u e => ?_, W.len, W.nd, fun i a e => ?_, W.small, fun a zs m => ?_, hnd'⟩
  · have ne : b ≠ p := fun z => by
      have e' : w.G b = some u := e
      rw [z, g0] at e'
      cases e'
    rw [upd_ne ne]
    exact W.same b u e
  · obtain ⟨g, xs, zs, h1, h2, h3⟩ := W.at_ i a e
    have ne : a ≠ p := fun z => n0 (by rw [← z]; exact List.mem_of_getElem? e)
    exact ⟨g, xs, zs, h1, by rw [upd_ne ne]; exact h2, h3.rh _⟩
  · rcases List.mem_cons.mp m with z | z
    · cases z
      exact ⟨g0, n0, upd_same⟩
    · obtain ⟨g, n, h1⟩ := W.hidd a zs (by rw [hh]; exact List.mem_cons_of_mem _ z)
      have ne : a ≠ p := fun q => (List.nodup_cons.mp hnd').1 (by rw [← q]; exact List.mem_map.mpr ⟨_, z, rfl⟩)
      exact ⟨g, n, by rw [upd_ne ne]; exact h1⟩
/-- the list in the making is done: frozen -/
theorem Wld.done {K : PySem.W.Frag} {w : Wd} {st : Sto} {H : Hp} {p : Addr} {vs : List V} {r : List (Addr × List V)} (W : Wld K w st H) (hh : w.hid = (p, vs) :: r) (n : vs.length ≤ sizeLine) : Wld K ⟨upd w.G p (.lst vs), w.as, r, w.dk⟩ st H := by
  obtain ⟨g0, n0, h0⟩ := W.hidd p vs (by rw [hh]; exact List.mem_cons_self)
  have hnd := W.hnd
  rw [hh] at hnd
  have hnd' : (p :: r.map (·.1)).Nodup := hnd
  have s : Same w.G (upd w.G p (.lst vs)) := fun b u e => by
    rw [upd_ne (ne_of_none e g0)]
    exact e
  refine ⟨fun b u e => ?_, W.len, W.nd, fun i a e => ?_, fun a u e => ?_, fun a zs m => ?_, (List.nodup_cons.mp hnd').2⟩
  · have e' : upd w.G p (.lst vs) b = some u := e
    by_cases hb : b = p
    · subst hb
      rw [upd_same] at e'
      cases e'
      exact h0
    · rw [upd_ne hb] at e'
      exact W.same b u e'
  · obtain ⟨g, xs, zs, h1, h2, h3⟩ := W.at_ i a e
    have ne : a ≠ p := fun z => n0 (by rw [← z]; exact List.mem_of_getElem? e)
    refine ⟨?_, xs, zs, h1, h2, h3.rg s _⟩
    show upd w.G p (.lst vs) a = none
    rw [upd_ne ne]
    exact g
  · have e' : upd w.G p (.lst vs) a = some u := e
    by_cases ha : a = p
    · subst ha
      rw [upd_same] at e'
      cases e'
      exact n
    · rw [upd_ne ha] at e'
      exact W.small a u e'
  · obtain ⟨g, n, h1⟩ := W.hidd a zs (by rw [hh]; exact List.mem_cons_of_mem _ m)
    have ne : a ≠ p := fun q => (List.nodup_cons.mp hnd').1 (by rw [← q]; exact List.mem_map.mpr ⟨_, m, rfl⟩)
    refine ⟨?_, n, h1⟩
    show upd w.G p (.lst vs) a = none
    rw [upd_ne ne]
    exact g
/-- .. a list of the store now -/
theorem Wld.doneNew {K : PySem.W.Frag} {w : Wd} {st : Sto} {H : Hp} {p : Addr} {xs : List D} {vs : List V} {r : List (Addr × List V)} (W : Wld K w st H) (hh : w.hid = (p, vs) :: r) (n : vs.length ≤ sizeLine) (R : Reps K w xs vs) : Wld K ⟨w.G, w.as ++ [p], r, fun b => if b = p then none else w.dk b⟩ (st ++ [xs]) H := by
  obtain ⟨g0, n0, h0⟩ := W.hidd p vs (by rw [hh]; exact List.mem_cons_self)
  have hnd := W.hnd
  rw [hh] at hnd
  have hnd' : (p :: r.map (·.1)).Nodup := hnd
  have pr : Pre w ⟨w.G, w.as ++ [p], r, fun b => if b = p then none else w.dk b⟩ := ⟨⟨[p], rfl⟩, fun a ha => if_neg fun (z : a = p) => n0 (z ▸ ha)⟩
  have sm : Same w.G (Wd.G ⟨w.G, w.as ++ [p], r, fun b => if b = p then none else w.dk b⟩) := Same.refl w.G
  refine ⟨W.same, ?_, ?_, fun i a e => ?_, W.small, fun a zs m => ?_, (List.nodup_cons.mp hnd').2⟩
  · show (w.as ++ [p]).length = (st ++ [xs]).length
    rw [List.length_append, List.length_append, W.len]
    rfl
  · show (w.as ++ [p]).Nodup
    refine List.nodup_append.mpr ⟨W.nd, by simp, fun a ha b hb z => ?_⟩
    have hbp : b = p := by simpa using hb
    rw [z, hbp] at ha
    exact n0 ha
  · have e' : (w.as ++ [p])[i]? = some a := e
    by_cases hi : i < w.as.length
    · rw [List.getElem?_append_left hi] at e'
      obtain ⟨g, ys, us, h1, h2, h3⟩ := W.at_ i a e'
      refine ⟨g, ys, us, by rw [List.getElem?_append_left (by rw [← W.len]; exact hi)]; exact h1, h2, ?_⟩
      rw [pr.dk a (List.mem_of_getElem? e')]
      exact h3.mono' sm pr
    · have hi2 : i = w.as.length := by
        have := (List.getElem?_eq_some_iff.mp e').1
        simp at this
        omega
      subst hi2
      rw [List.getElem?_concat_length] at e'
      cases e'
      refine ⟨g0, xs, _, by rw [W.len, List.getElem?_concat_length], h0, ?_⟩
      rw [show Wd.dk ⟨w.G, w.as ++ [p], r, fun b => if b = p then none else w.dk b⟩ p = none from if_pos rfl]
      exact ⟨vs, rfl, n, Reps.mono' sm pr _ _ R⟩
  · obtain ⟨g, n, h1⟩ := W.hidd a zs (by rw [hh]; exact List.mem_cons_of_mem _ m)
    have ne : a ≠ p := fun q => (List.nodup_cons.mp hnd').1 (by rw [← q]; exact List.mem_map.mpr ⟨_, m, rfl⟩)
    refine ⟨g, fun m' => ?_, h1⟩
    rcases List.mem_append.mp m' with z | z
    · exact n z
    · exact ne (by simpa using z)
theorem wipe_get (σ : L2.St) (j : Nat) : ∀ vs : List Nat, (wipe σ vs)[j]? = if j ∈ vs then σ[j]?.map (fun _ => none) else σ[j]?
  | [] => by simp [wipe]
  | v :: vs => by
    show ((wipe σ vs).set v none)[j]? = _
    by_cases hj : v = j
    · subst hj
      rw [if_pos List.mem_cons_self]
      by_cases hl : v < σ.length
      · rw [List.getElem?_set_self (by rw [wipe_length]; exact hl), List.getElem?_eq_getElem hl]
        rfl
      · rw [List.getElem?_eq_none (by simp [wipe_length]; omega), List.getElem?_eq_none (by omega)]
        rfl
    · rw [List.getElem?_set_ne hj, wipe_get σ j vs]
      by_cases hm : j ∈ vs
      · rw [if_pos hm, if_pos (List.mem_cons_of_mem _ hm)]
      · rw [if_neg hm, if_neg (fun z => by rcases List.mem_cons.mp z with z | z; exact hj z.symm; exact hm z)]
theorem wipe_set {σ : L2.St} {i : Nat} {x : Option V} {vs : List Nat} (h : i ∈ vs) : wipe (σ.set i x) vs = wipe σ vs := by
  refine List.ext_getElem? fun j => ?_
  rw [wipe_get, wipe_get]
  by_cases hj : j = i
  · subst hj
    rw [if_pos h, if_pos h]
    by_cases hl : j < σ.length
    · rw [List.getElem?_set_self hl, List.getElem?_eq_getElem hl]
      rfl
    · rw [List.getElem?_eq_none (by simp; omega), List.getElem?_eq_none (by omega)]
  · rw [List.getElem?_set_ne (Ne.symm hj)]
theorem wipe_wipe (σ : L2.St) (vs : List Nat) : wipe (wipe σ vs) vs = wipe σ vs := by
  refine List.ext_getElem? fun j => ?_
  rw [wipe_get, wipe_get]
  split
  · cases σ[j]? <;> rfl
  · rfl
/-- a target that is the block's own -/
def tDGo (K : PySem.W.Frag) (vs : List Nat) (g : DG) : TG := fun v σ H Q => ∃ w env st d nx, Wld K w st H ∧ EnvR K w env σ ∧ Rep K w d v ∧ g d env st nx ∧
  ∀ env' st' σ' w' H', nx env' st' → Le w w' → Wld K w' st' H' → EnvR K w' env' σ' → wipe σ' vs = wipe σ vs → Q σ' H'
def tDGso (K : PySem.W.Frag) (vs : List Nat) (g : DGs) : TGs := fun us σ H Q => ∃ w env st ds nx, Wld K w st H ∧ EnvR K w env σ ∧ Reps K w ds us ∧ g ds env st nx ∧
  ∀ env' st' σ' w' H', nx env' st' → Le w w' → Wld K w' st' H' → EnvR K w' env' σ' → wipe σ' vs = wipe σ vs → Q σ' H'
abbrev PDGo (X : Cx) (vs : List Nat) (e : Expr) (g : DG) : Prop := PG X e (tDGo X.K vs g)
abbrev PDGso (X : Cx) (vs : List Nat) (e : List Expr) (g : DGs) : Prop := PGs X e (tDGso X.K vs g)
theorem pdgo_name (i : Nat) {vs : List Nat} {x : Str} (hN : X.N.Nodup) (hi : X.N[i]? = some x := by rfl) (hx : Loc X.env.scope x := by first | exact Or.inl rfl | exact Or.inr rfl) (hf : X.fn x = true ∨ X.env.scope.names.lookup x = some .local := by first | exact .inl rfl | exact .inr rfl | assumption) (hv : i ∈ vs := by decide) : PDGo X vs (.Name x pos) (dgName i) := by
  refine L2.PG.wk (pg_name hN hi hx hf) fun v σ H Q ⟨w, env, st, d, nx, W, E, R, h, fn⟩ => ?_
  exact fn _ _ _ _ _ h (.refl _) W (E.set i R) (wipe_set hv)
theorem pdgso_nil {vs : List Nat} : PDGso X vs [] dgNil := by
  refine L2.PGs.wk pgs_nil fun v σ H Q ⟨w, env, st, ds, nx, W, E, R, h, fn⟩ => ?_
  cases ds with
  | nil => exact ⟨R.inv0, fn _ _ _ _ _ h (.refl _) W E rfl⟩
  | cons _ _ => exact h.elim
theorem pdgso_cons {vs : List Nat} {es : List Expr} {t : DG} {u : DGs} (h1 : PDGo X vs e t) (h2 : PDGso X vs es u)
    (hs : (assignEach (e :: es) X.env).map (·.2) = assign e X.env :: (assignEach es X.env).map (·.2) := by rfl) : PDGso X vs (e :: es) (dgCons t u) := by
  refine L2.PGs.wk (pgs_cons h1 h2 hs) fun v σ H Q ⟨w, env, st, ds, nx, W, E, R, h, fn⟩ => ?_
  cases ds with
  | nil => exact h.elim
  | cons d r =>
    obtain ⟨v, vr, rfl, R1, R2⟩ := R.inv
    exact ⟨v, vr, rfl, w, env, st, d, _, W, E, R1, h, fun env1 st1 σ1 w1 H1 h1 l1 W1 E1 ew => ⟨w1, env1, st1, r, nx, W1, E1, Reps.mono l1 _ _ R2, h1,
      fun env2 st2 σ2 w2 H2 h2 l2 W2 E2 ew2 => fn _ _ _ _ _ h2 (l1.trans l2) W2 E2 (ew2.trans ew)⟩⟩
theorem pdgo_tup {vs : List Nat} {es : List Expr} {kk : Nat} {t : DGs} {n : Nat} (hc : X.calm = true) (h : PDGso X vs es t)
    (hn : (assignEach es X.env).length = n := by rfl) (hst : (assignEach es X.env).findIdx? (·.1) = none := by rfl) : PDGo X vs (.Tuple es kk pos) (dgTup n t) := by
  refine L2.PG.wk (pg_tup hc h hn hst) fun v σ H Q ⟨w, env, st, d, nx, W, E, R, h, fn⟩ => ?_
  unfold dgTup at h
  split at h
  · rename_i xs e
    obtain ⟨a, us, rfl, q, r, _⟩ := rep_tup W R e
    exact ⟨a, us, rfl, q, by rw [r.length]; exact h.1, w, env, st, xs, nx, W, E, r, h.2, fn⟩
  · exact h.elim
def dYes : DT := fun _ st k => k true st
abbrev PDTs (X : Cx) (ifs : List Expr) (t : DT) : Prop := PTs X ifs (tDT X.K t)
theorem pdts_nil : PDTs X [] dYes := ⟨fun pins s σ H Q I ⟨w, env, st, kk, W, E, h, fo⟩ => pts_nil.run pins s σ H Q I (fo _ _ _ _ h (.refl _) W)⟩
theorem pdts_one {c : Expr} {t : DT} (h : PDT X c t) : PDTs X [c] t := pts_one h
theorem lc_in {K : PySem.W.Frag} {di : DI} {g : DG} {tt : DT} {te : DE} {vs : List Nat} {σ : L2.St} {H : Hp} {Q : VK} {w : Wd} {env : Env} {st : Sto} {k : List D → Sto → Prop} (W : Wld K w st H) (E : EnvR K w env σ)
    (h : di env st fun xs src s1 => xs.length ≤ 16777216 ∧ goLc src g tt te vs env k xs [] s1)
    (fin : ∀ (acc : List D) (st2 : Sto) (D : Addr) (us : List V) (w2 : Wd) (H2 : Hp), w2.hid = (D, us) :: w.hid → Le0 w w2 → Wld K w2 st2 H2 → Reps K w2 acc us → us.length ≤ sizeLine → k acc st2 → Q (.ref D) H2) :
    tLc (tDI K di) (tDGo K vs g) (tDT K tt) (tD K te) vs σ H Q := by
  refine ⟨w, env, st, _, W, E, h, fun xs src st1 w1 H1 J ⟨hlen, h1⟩ l1 W1 wk D hD => ?_⟩
  refine ⟨fun i m H2 => m = xs.length - i ∧ i ≤ xs.length ∧ ∃ w2 st2 acc us, w2.hid = (D, us) :: w.hid ∧ Le0 w1 w2 ∧ Wld K w2 st2 H2 ∧ Reps K w2 acc us ∧ us.length ≤ i ∧ goLc src g tt te vs env k (xs.drop i) acc st2,
    ⟨xs.length, by simp, Nat.zero_le _, ⟨w1.G, w1.as, (D, []) :: w1.hid, w1.dk⟩, st1, [], [], by rw [← l1.hid], ⟨Same.refl w1.G, .eq rfl rfl⟩, W1.hide (vs := []) hD, .nil, Nat.le_refl _, by simpa using h1⟩, ?_⟩
  rintro i m H2 ⟨rfl, hi, w2, st2, acc, us, hh, l2, W2, R2, hu, q⟩
  by_cases hlt : i < xs.length
  · rw [List.drop_eq_getElem_cons hlt] at q
    obtain ⟨so, q⟩ := q
    refine .inr ⟨wk.goes i w2 st2 H2 hlt l2 W2 so, fun H' => ∃ w3 st3 acc us, w3.hid = (D, us) :: w.hid ∧ Le0 w1 w3 ∧ Wld K w3 st3 H' ∧ Reps K w3 acc us ∧ us.length ≤ i + 1 ∧ goLc src g tt te vs env k (xs.drop (i + 1)) acc st3, fun H' pv => ⟨xs.length - (i + 1), by omega, rfl, hlt, pv⟩, fun v H3 y => ?_⟩
    obtain ⟨w3, d, l3, W3, e3, R3⟩ := wk.yields i w2 st2 H2 v H3 hlt l2 W2 so y
    have ed : d = xs[i] := by
      rw [List.getElem?_eq_getElem hlt] at e3
      exact (Option.some.inj e3).symm
    rw [← ed] at q
    have l03 : Le0 w w3 := (l1.toLe0.trans l2).trans l3.toLe0
    refine ⟨w3, wipeE env vs, st2, d, _, W3, (E.mono0 l03).wipe vs, R3, q, fun env4 st4 σ4 w4 H4 h4 l4 W4 E4 ew => ⟨ew.trans (wipe_wipe σ vs), ?_⟩⟩
    refine ⟨w4, env4, st4, _, W4, E4, h4, fun b st5 w5 H5 h5 l5 W5 => ?_⟩
    have l25 := (l3.trans l4).trans l5
    cases b with
    | true =>
      simp only [↓reduceIte] at h5 ⊢
      refine ⟨w5, env4, st5, _, W5, E4.mono l5, h5, fun d6 st6 v6 w6 H6 h6 l6 W6 R6 => ?_⟩
      have l26 := l25.trans l6
      have h6h : w6.hid = (D, us) :: w.hid := l26.hid.trans hh
      refine ⟨us, (W6.hidd D us (by rw [h6h]; exact List.mem_cons_self)).2.2, by rw [sizeLine_eq]; omega, ⟨w6.G, w6.as, (D, us ++ [v6]) :: w.hid, w6.dk⟩, st6, acc ++ [d6], us ++ [v6], rfl, ?_, W6.regrow h6h, ?_, by simp; omega, h6⟩
      · exact ⟨(l2.trans l26.toLe0).same, ⟨(l2.trans l26.toLe0).pre.as, (l2.trans l26.toLe0).pre.dk⟩⟩
      · exact ((Reps.mono l26 _ _ R2).rh _).append (.cons (R6.rh _) .nil)
    | false =>
      simp only [Bool.false_eq_true, ↓reduceIte] at h5 ⊢
      exact ⟨w5, st5, acc, us, l25.hid.trans hh, l2.trans l25.toLe0, W5, Reps.mono l25 _ _ R2, Nat.le_succ_of_le hu, h5⟩
  · have hie : i = xs.length := by omega
    subst hie
    rw [List.drop_length] at q
    exact .inl ⟨wk.stops w2 st2 H2 l2 W2 q.1, fin acc st2 D us w2 H2 hh (l1.toLe0.trans l2) W2 R2 (by rw [sizeLine_eq]; omega) q.2⟩
theorem lc_fin {K : PySem.W.Frag} {w : Wd} {kk : DK} {Q : VK} (fo : Fol K w kk Q) (acc : List D) (st2 : Sto) (p : Addr) (us : List V) (w2 : Wd) (H2 : Hp) (hh : w2.hid = (p, us) :: w.hid) (l : Le0 w w2) (W2 : Wld K w2 st2 H2) (R : Reps K w2 acc us) (n : us.length ≤ sizeLine) (k : kk (.lst acc) st2) : Q (.ref p) H2 := by
  have g0 := (W2.hidd p us (by rw [hh]; exact List.mem_cons_self)).1
  have s : Same w2.G (upd w2.G p (.lst us)) := fun b u e => by
    rw [upd_ne (ne_of_none e g0)]
    exact e
  refine fo _ _ _ ⟨upd w2.G p (.lst us), w2.as, w.hid, w2.dk⟩ _ k ⟨⟨l.same.trans s, ⟨l.pre.as, l.pre.dk⟩⟩, rfl⟩ (W2.done hh n) ?_
  simp only [Rep]
  exact ⟨p, us, rfl, upd_same, R.rg s _⟩
theorem lc_finNew {K : PySem.W.Frag} {w : Wd} {kk : DK} {Q : VK} (fo : Fol K w kk Q) (acc : List D) (st2 : Sto) (p : Addr) (us : List V) (w2 : Wd) (H2 : Hp) (hh : w2.hid = (p, us) :: w.hid) (l : Le0 w w2) (W2 : Wld K w2 st2 H2) (R : Reps K w2 acc us) (n : us.length ≤ sizeLine) (k : kk (.obj st2.length) (st2 ++ [acc])) : Q (.ref p) H2 := by
  have n0 := (W2.hidd p us (by rw [hh]; exact List.mem_cons_self)).2.1
  refine fo _ _ _ ⟨w2.G, w2.as ++ [p], w.hid, fun b => if b = p then none else w2.dk b⟩ _ k ⟨⟨l.same, (l.trans (w3 := ⟨w2.G, w2.as ++ [p], w.hid, fun b => if b = p then none else w2.dk b⟩) ⟨Same.refl w2.G, ⟨[p], rfl⟩, fun a ha => if_neg fun (z : a = p) => n0 (z ▸ ha)⟩).pre⟩, rfl⟩ (W2.doneNew hh n R) ?_
  simp only [Rep]
  refine ⟨p, rfl, ?_, if_pos rfl⟩
  show (w2.as ++ [p])[st2.length]? = some p
  rw [← W2.len, List.getElem?_concat_length]
variable {elt iter : Expr} {ifs : List Expr} {scope : Scope} {own : List (Str × Nat)} {di : DI} {g : DG} {tt : DT} {te : DE}
theorem pd_lc (own : List (Str × Nat)) (hc : X.calm = true) (hN : X.N.Nodup) (hi : PDI X tg iter di) (ok : BlkOk X.N X.env.scope scope own)
    (hg : ∀ (s : Shared) (H : Hp) (C : Addr) (cl : List (Str × Addr)) (fp : List Addr), PDGo (X.blk s H scope (compEnvC scope cl C X.env) fp) (own.map (·.2)) tg g) (ht : ∀ (s : Shared) (H : Hp) (C : Addr) (cl : List (Str × Addr)) (fp : List Addr), PDTs (X.blk s H scope (compEnvC scope cl C X.env) fp) ifs tt)
    (he : ∀ (s : Shared) (H : Hp) (C : Addr) (cl : List (Str × Addr)) (fp : List Addr), PD (X.blk s H scope (compEnvC scope cl C X.env) fp) elt te) (hs : ∀ x, foldedSetIterable iter X.env x = pure x := by intro _; rfl) :
    PD X (.ListComp elt [⟨tg, iter, ifs, 0⟩] scope pos) (dLc di g tt te (own.map (·.2))) :=
  (L2.pe_lc hc hN hi ok hg ht he hs).wk fun σ H Q ⟨w, env, st, kk, W, E, h, fo⟩ => lc_in W E h (lc_fin fo)
theorem pd_lcNew (own : List (Str × Nat)) (hc : X.calm = true) (hN : X.N.Nodup) (hi : PDI X tg iter di) (ok : BlkOk X.N X.env.scope scope own)
    (hg : ∀ (s : Shared) (H : Hp) (C : Addr) (cl : List (Str × Addr)) (fp : List Addr), PDGo (X.blk s H scope (compEnvC scope cl C X.env) fp) (own.map (·.2)) tg g) (ht : ∀ (s : Shared) (H : Hp) (C : Addr) (cl : List (Str × Addr)) (fp : List Addr), PDTs (X.blk s H scope (compEnvC scope cl C X.env) fp) ifs tt)
    (he : ∀ (s : Shared) (H : Hp) (C : Addr) (cl : List (Str × Addr)) (fp : List Addr), PD (X.blk s H scope (compEnvC scope cl C X.env) fp) elt te) (hs : ∀ x, foldedSetIterable iter X.env x = pure x := by intro _; rfl) :
    PD X (.ListComp elt [⟨tg, iter, ifs, 0⟩] scope pos) (dLcNew di g tt te (own.map (·.2))) :=
  (L2.pe_lc hc hN hi ok hg ht he hs).wk fun σ H Q ⟨w, env, st, kk, W, E, h, fo⟩ => lc_in W E h (lc_finNew fo)
/-- y = [..], y a local -/
theorem pds_setLc (i : Nat) (own : List (Str × Nat)) {y : Str} {py spos : Pos} (hc : X.calm = true) (hN : X.N.Nodup) (hi : PDI X tg iter di) (ok : BlkOk X.N X.env.scope scope own)
    (hg : ∀ (s : Shared) (H : Hp) (C : Addr) (cl : List (Str × Addr)) (fp : List Addr), PDGo (X.blk s H scope (compEnvC scope cl C X.env) fp) (own.map (·.2)) tg g) (ht : ∀ (s : Shared) (H : Hp) (C : Addr) (cl : List (Str × Addr)) (fp : List Addr), PDTs (X.blk s H scope (compEnvC scope cl C X.env) fp) ifs tt)
    (he : ∀ (s : Shared) (H : Hp) (C : Addr) (cl : List (Str × Addr)) (fp : List Addr), PD (X.blk s H scope (compEnvC scope cl C X.env) fp) elt te)
    (hsw : swapsWith (.ListComp elt [⟨tg, iter, ifs, 0⟩] scope pos) (some (.Name y py)) spos.line X.env = pure true) (hy : X.N[i]? = some y := by rfl) (hyl : X.env.scope.names.lookup y = some .local := by rfl) (hs : ∀ x, foldedSetIterable iter X.env x = pure x := by intro _; rfl) :
    PDS X (.Assign [.Name y py] (.ListComp elt [⟨tg, iter, ifs, 0⟩] scope pos) spos) (dAsg (dLc di g tt te (own.map (·.2))) (dgName i)) := by
  refine (L2.ps_setLc (g := tDGo X.K (own.map (·.2)) g) (tt := tDT X.K tt) (te := tD X.K te) hc hN hy hyl hsw hi ok hg ht he hs).wk fun Ed σ H ⟨w, env, st, E0, W, E, h, fn, fr⟩ => ?_
  exact lc_in W E h (lc_fin (kk := fun d s1 => dgName i d env s1 E0.nx) fun d st1 v w1 H1 h1 l1 W1 R1 => fn _ _ _ _ _ h1 l1 W1 ((E.mono l1).set i R1))
theorem pds_setLcNew (i : Nat) (own : List (Str × Nat)) {y : Str} {py spos : Pos} (hc : X.calm = true) (hN : X.N.Nodup) (hi : PDI X tg iter di) (ok : BlkOk X.N X.env.scope scope own)
    (hg : ∀ (s : Shared) (H : Hp) (C : Addr) (cl : List (Str × Addr)) (fp : List Addr), PDGo (X.blk s H scope (compEnvC scope cl C X.env) fp) (own.map (·.2)) tg g) (ht : ∀ (s : Shared) (H : Hp) (C : Addr) (cl : List (Str × Addr)) (fp : List Addr), PDTs (X.blk s H scope (compEnvC scope cl C X.env) fp) ifs tt)
    (he : ∀ (s : Shared) (H : Hp) (C : Addr) (cl : List (Str × Addr)) (fp : List Addr), PD (X.blk s H scope (compEnvC scope cl C X.env) fp) elt te)
    (hsw : swapsWith (.ListComp elt [⟨tg, iter, ifs, 0⟩] scope pos) (some (.Name y py)) spos.line X.env = pure true) (hy : X.N[i]? = some y := by rfl) (hyl : X.env.scope.names.lookup y = some .local := by rfl) (hs : ∀ x, foldedSetIterable iter X.env x = pure x := by intro _; rfl) :
    PDS X (.Assign [.Name y py] (.ListComp elt [⟨tg, iter, ifs, 0⟩] scope pos) spos) (dAsg (dLcNew di g tt te (own.map (·.2))) (dgName i)) := by
  refine (L2.ps_setLc (g := tDGo X.K (own.map (·.2)) g) (tt := tDT X.K tt) (te := tD X.K te) hc hN hy hyl hsw hi ok hg ht he hs).wk fun Ed σ H ⟨w, env, st, E0, W, E, h, fn, fr⟩ => ?_
  exact lc_in W E h (lc_finNew (kk := fun d s1 => dgName i d env s1 E0.nx) fun d st1 v w1 H1 h1 l1 W1 R1 => fn _ _ _ _ _ h1 l1 W1 ((E.mono l1).set i R1))
end
end DL

namespace DL
open PySem PySem.Spec PyProof.Rows L2
section
variable {X : Cx} {tg e e2 o i : Expr} {es : List Expr} {pos p : Pos} {ta tb to ti : DE}
/-! ### methods of lists -/
abbrev FM := D → List D → Sto → DK → Prop
def rDM (K : PySem.W.Frag) (f : FM) : V → List V → Hp → VK → Prop := fun x vs H Q => ∃ w st d ds kk, Wld K w st H ∧ Rep K w d x ∧ Reps K w ds vs ∧ f d ds st kk ∧ Fol K w kk Q
def isLst (st : Sto) (d : D) : Bool := match deref st d with
  | .lst _ => true
  | _ => false
def dMeth (f : FM) (to : DE) (ta : DA) : DE := fun env st k => to env st fun d s1 => isLst s1 d = true ∧ ta env s1 fun ds s2 => f d ds s2 k
theorem isLst_rep {K : PySem.W.Frag} {w : Wd} {st : Sto} {H : Hp} {d : D} {v : V} (W : Wld K w st H) (R : Rep K w d v) (h : isLst st d = true) : tyV K "list" v H := by
  unfold isLst at h
  split at h
  · rename_i xs hd
    obtain ⟨a, vs, rfl, q, _⟩ := rep_lst W R hd
    exact .inl ⟨rfl, vs, q⟩
  · cases h
theorem pd_bm {nm : Str} {idn : String} {apos cpos : Pos} {f : FM} {t : DA} (slot : Slot "list" nm idn) (hty : typeOf (.builtin idn) = pure (.type "method_descriptor")) (hm : MtR X idn (rDM X.K f)) (ho : PD X o to) (ha : PDA X (e :: es) t)
    (hbase : attributeBase o nm X.env (eval o X.env) = eval o X.env := by rfl)
    (hfew : ((backTo cpos (starEach (e :: es) X.env)).all (fun x => !x.1) && (backToKw cpos (keywordEach [] X.env)).all (fun x => x.1.isSome)
      && decide ((e :: es).length + ([] : List Keyword).length + (if ([] : List Keyword).isEmpty then 0 else 1) < 30)) = true := by rfl)
    (hline : (apos.endLine == cpos.line) = true := by rfl) (hs : starEach (e :: es) X.env = (false, eval e X.env) :: starEach es X.env := by rfl) (hplain : (backTo cpos (starEach es X.env)).any (·.1) = false := by rfl) :
    PD X (.Call (.Attribute o nm apos) (e :: es) [] cpos) (dMeth f to t) := by
  refine (pe_bm PySem.F.plainAttrs_list slot hty hm ho ha hbase hfew hline hs hplain).wk fun σ H Q ⟨w, env, st, kk, W, E, h, fo⟩ => ?_
  refine ⟨w, env, st, _, W, E, h, fun d st1 v w1 H1 h1 l1 W1 R1 => ⟨isLst_rep W1 R1 h1.1, ?_⟩⟩
  exact ⟨w1, env, st1, _, W1, E.mono l1, h1.2, fun ds st2 vs w2 H2 h2 l2 W2 R2 => ⟨w2, st2, d, ds, kk, W2, Rep.mono l2 _ _ R1, R2, h2, fo.le (l1.trans l2)⟩⟩
theorem pd_bm0 {nm : Str} {idn : String} {apos cpos : Pos} {f : FM} (slot : Slot "list" nm idn) (hty : typeOf (.builtin idn) = pure (.type "method_descriptor")) (hm : MtR X idn (rDM X.K f)) (ho : PD X o to)
    (hbase : attributeBase o nm X.env (eval o X.env) = eval o X.env := by rfl) (hline : (apos.endLine == cpos.line) = true := by rfl) : PD X (.Call (.Attribute o nm apos) [] [] cpos) (dMeth f to dNil) := by
  refine (pe_bm0 PySem.F.plainAttrs_list slot hty hm ho hbase hline).wk fun σ H Q ⟨w, env, st, kk, W, E, h, fo⟩ => ?_
  exact ⟨w, env, st, _, W, E, h, fun d st1 v w1 H1 h1 l1 W1 R1 => ⟨isLst_rep W1 R1 h1.1, w1, st1, d, [], kk, W1, R1, .nil, h1.2, fo.le l1⟩⟩
def mAppend : FM := fun d ds st k => match d, ds with
  | .obj i, [x] => match st[i]? with
    | some xs => xs.length < 16777216 ∧ k .non (st.set i (xs ++ [x]))
    | none => False
  | _, _ => False
theorem obj_rep {K : PySem.W.Frag} {w : Wd} {st : Sto} {H : Hp} {i : Nat} {v : V} {xs : List D} (W : Wld K w st H) (R : Rep K w (.obj i) v) (h : st[i]? = some xs) :
    ∃ a vs, v = .ref a ∧ (w.as[i]? = some a ∧ w.dk a = none) ∧ H a = some (.lst vs) ∧ Reps K w xs vs ∧ vs.length ≤ sizeLine := by
  simp only [Rep] at R
  obtain ⟨a, e1, q, q2⟩ := R
  obtain ⟨g, ys, o, h1, h2, h3⟩ := W.at_ i a q
  rw [h] at h1
  cases h1
  rw [q2] at h3
  obtain ⟨vs, rfl, h3, h4⟩ := h3
  exact ⟨a, vs, e1, ⟨q, q2⟩, h2, h4, h3⟩
theorem md_append : MtR X "list.append" (rDM X.K mAppend) := by
  rintro pins s σ H x xs v us Q I rx rs ⟨w, st, d, ds, kk, W, R1, R2, q, fo⟩
  unfold mAppend at q
  split at q
  · rename_i j y
    split at q
    · rename_i ys hj
      obtain ⟨a, vs, rfl, ha, hH, r, n⟩ := obj_rep W R1 hj
      obtain ⟨yv, rfl, ry⟩ := one_rep R2
      have n' : vs.length < sizeLine := by rw [r.length, sizeLine_eq]; exact q.1
      refine mt_append pins s σ H _ _ v us Q I rx rs ⟨a, vs, yv, rfl, rfl, hH, n', ?_⟩
      exact fo _ _ _ _ _ q.2 (.refl _) (W.wr ha.1 ha.2 (r.append (.cons ry .nil)) (by rw [List.length_append]; exact n')) rep_non
    · exact q.elim
  · exact q.elim
def mPop : FM := fun d ds st k => match d, ds with
  | .obj i, [] => match st[i]? with
    | some xs => ∃ x, xs[xs.length - 1]? = some x ∧ k x (st.set i xs.dropLast)
    | none => False
  | _, _ => False
theorem dropLast_reps {K : PySem.W.Frag} {w : Wd} {ds : List D} {vs : List V} (r : Reps K w ds vs) : Reps K w ds.dropLast vs.dropLast := by
  rw [List.dropLast_eq_take, List.dropLast_eq_take, r.length]
  exact r.take _
theorem md_pop : MtR X "list.pop" (rDM X.K mPop) := by
  rintro pins s σ H x xs v us Q I rx rs ⟨w, st, d, ds, kk, W, R1, R2, q, fo⟩
  unfold mPop at q
  split at q
  · rename_i j
    split at q
    · rename_i ys hj
      obtain ⟨y, hy, q⟩ := q
      obtain ⟨a, vs, rfl, ha, hH, r, n⟩ := obj_rep W R1 hj
      obtain rfl := R2.inv0
      obtain ⟨yv, hyv, ry⟩ := r.get hy
      refine mt_pop pins s σ H _ _ v us Q I rx rs ⟨a, vs, yv, rfl, rfl, hH, by rw [r.length]; exact hyv, ?_⟩
      exact fo _ _ _ _ _ q (.refl _) (W.wr ha.1 ha.2 (dropLast_reps r) (by rw [List.length_dropLast]; omega)) ry
    · exact q.elim
  · exact q.elim
def mReverse : FM := fun d ds st k => match d, ds with
  | .obj i, [] => match st[i]? with
    | some xs => k .non (st.set i xs.reverse)
    | none => False
  | _, _ => False
theorem md_reverse : MtR X "list.reverse" (rDM X.K mReverse) := by
  rintro pins s σ H x xs v us Q I rx rs ⟨w, st, d, ds, kk, W, R1, R2, q, fo⟩
  unfold mReverse at q
  split at q
  · rename_i j
    split at q
    · rename_i ys hj
      obtain ⟨a, vs, rfl, ha, hH, r, n⟩ := obj_rep W R1 hj
      obtain rfl := R2.inv0
      refine mt_reverse pins s σ H _ _ v us Q I rx rs ⟨a, vs, rfl, rfl, hH, ?_⟩
      exact fo _ _ _ _ _ q (.refl _) (W.wr ha.1 ha.2 r.rev (by rw [List.length_reverse]; exact n)) rep_non
    · exact q.elim
  · exact q.elim
def mExtend : FM := fun d ds st k => match d, ds with
  | .obj i, [y] => match st[i]?, derefM st y with
    | some xs, some ys => xs.length + ys.length ≤ 16777216 ∧ k .non (st.set i (xs ++ ys))
    | _, _ => False
  | _, _ => False
theorem md_extend : MtR X "list.extend" (rDM X.K mExtend) := by
  rintro pins s σ H x xs v us Q I rx rs ⟨w, st, d, ds, kk, W, R1, R2, q, fo⟩
  unfold mExtend at q
  split at q
  · rename_i j y
    split at q
    · rename_i ys zs hj hz
      obtain ⟨a, vs, rfl, ha, hH, r, n⟩ := obj_rep W R1 hj
      obtain ⟨yv, rfl, ry⟩ := one_rep R2
      obtain ⟨b, us2, rfl, hb, r2, n2⟩ := rep_lstM W ry hz
      have n' : vs.length + us2.length ≤ sizeLine := by rw [r.length, r2.length]; exact line16 q.1
      refine mt_extend pins s σ H _ _ v us Q I rx rs ⟨a, b, vs, us2, rfl, rfl, hH, hb, n', ?_⟩
      exact fo _ _ _ _ _ q.2 (.refl _) (W.wr ha.1 ha.2 (r.append r2) (by rw [List.length_append]; exact n')) rep_non
    · exact q.elim
  · exact q.elim

/-! ### o[i] = v -/
def setD (o i v : D) (st : Sto) (k : Sto → Prop) : Prop := match o, i with
  | .obj j, .int n => match st[j]? with
    | some xs => ∃ m, ixN xs.length n = some m ∧ k (st.set j (xs.set m v))
    | none => False
  | _, _ => False
def dgSub (to ti : DE) : DG := fun v env st k => to env st fun o s1 => ti env s1 fun i s2 => setD o i v s2 fun s3 => k env s3
theorem pdg_sub (ho : PD X o to) (hi : PD X i ti)
    (ha : ∀ v, assign (.Subscript o i pos) X.env v = (do
      let ov ← holding [v] (eval o X.env)
      let iv ← holding [v, ov] (eval i X.env)
      standAt pos
      holding [v, ov, iv] (setItem ov iv v)
      release [v, ov, iv] []) := by intro _; rfl) : PDG X (.Subscript o i pos) (dgSub to ti) := by
  refine L2.PG.wk (pg_sub ho hi set_list ha) fun v σ H Q ⟨w, env, st, d, nx, W, E, R, h, fn⟩ => ?_
  refine ⟨w, env, st, _, W, E, h, fun d1 st1 v1 w1 H1 h1 l1 W1 R1 => ⟨w1, env, st1, _, W1, E.mono l1, h1, fun d2 st2 v2 w2 H2 h2 l2 W2 R2 => ?_⟩⟩
  unfold setD at h2
  split at h2
  · rename_i j n
    split at h2
    · rename_i xs hj
      obtain ⟨m, hm, h2⟩ := h2
      obtain ⟨a, vs, rfl, ha, hH, r, nn⟩ := obj_rep W2 (Rep.mono l2 _ _ R1) hj
      simp only [Rep] at R2
      subst R2
      refine ⟨a, vs, n, m, rfl, rfl, hH, by rw [r.length]; exact hm, ?_⟩
      refine fn _ _ _ _ _ h2 (l1.trans l2) (W2.wr ha.1 ha.2 (r.set m (Rep.mono (l1.trans l2) _ _ R)) (by rw [List.length_set]; exact nn)) (E.mono (l1.trans l2))
    · exact h2.elim
  · exact h2.elim
/-- x op= e -/
def dAug (i : Nat) (t : DE) (f : F2) : DS := fun D env st => match env[i]? with
  | some (some d) => t env st fun e s1 => f d e s1 fun z s2 => D.nx (env.set i (some z)) s2
  | _ => False
theorem pds_aug (i : Nat) {x : Str} {op : Operator} {f : F2} {pos' : Pos} (hN : X.N.Nodup) (he : PD X e ta) (ho : OpR X (inplaceOp op) (rD X.K f)) (hi : X.N[i]? = some x := by rfl) (hx : Loc X.env.scope x := by first | exact Or.inl rfl | exact Or.inr rfl) (hf : X.fn x = true ∨ X.env.scope.names.lookup x = some .local := by first | exact .inl rfl | exact .inr rfl | assumption) :
    PDS X (.AugAssign (.Name x pos') op e pos) (dAug i ta f) := by
  refine (ps_aug (ti := rD X.K f) hN hi hx he ho hf).wk fun Ed σ H ⟨w, env, st, E0, W, E, h, fn, fr⟩ => ?_
  unfold dAug at h
  split at h
  · rename_i d hd
    obtain ⟨v, e1, r⟩ := E.2 i d hd
    refine ⟨v, e1, w, env, st, _, W, E, h, fun e st1 u w1 H1 h1 l1 W1 R1 => ?_⟩
    exact ⟨w1, st1, d, e, _, W1, Rep.mono l1 _ _ r, R1, h1, fun z st2 y w2 H2 h2 l2 W2 R2 => fn _ _ _ _ _ h2 (l1.trans l2) W2 (((E.mono l1).mono l2).set i R2)⟩
  · exact h.elim
def iaddD : F2 := fun d e st k => match d, e with
  | .int a, .int b => k (.int (a + b)) st
  | _, _ => False
theorem iop_addD : OpR X (inplaceOp .Add) (rD X.K iaddD) := by
  refine OpR.by_ fun x y H Q w st d e kk W R1 R2 q fo => ?_
  unfold iaddD at q
  split at q
  · simp only [Rep] at R1 R2
    exact ⟨_, iop_add, _, _, R1, R2, fo.id q W rep_int⟩
  · exact q.elim
def isubD : F2 := fun d e st k => match d, e with
  | .int a, .int b => k (.int (a - b)) st
  | _, _ => False
theorem iop_subD : OpR X (inplaceOp .Sub) (rD X.K isubD) := by
  refine OpR.by_ fun x y H Q w st d e kk W R1 R2 q fo => ?_
  unfold isubD at q
  split at q
  · simp only [Rep] at R1 R2
    exact ⟨_, iop_sub, _, _, R1, R2, fo.id q W rep_int⟩
  · exact q.elim

/-! ### isinstance -/
def tyD : D → String
  | .non => "NoneType"
  | .bl _ => "bool"
  | .int _ => "int"
  | .str _ => "str"
  | .lst _ => "list"
  | .klst _ => "list"
  | .tup _ => "tuple"
  | .obj _ => "list"
  | .dic _ _ => "dict"
  | .fdic _ _ => "dict"
  | .gtup _ => "tuple"
/-- is a value of the type a one of the type b -/
def subTy (a b : String) : Bool := a == b || (a == "bool" && b == "int")
def okTy : List String := ["int", "bool", "str", "list", "tuple"]
theorem kit_all : (["NoneType", "bool", "int", "str", "list", "tuple", "dict"].all fun a => okTy.all fun b => kitB a b == some (subTy a b)) = true := by decide +kernel
theorem kit_at (d : D) {b : String} (hb : b ∈ okTy) : kitB (tyD d) b = some (subTy (tyD d) b) := by
  have h := List.all_eq_true.mp kit_all (tyD d) (by cases d <;> simp [tyD])
  exact eq_of_beq (List.all_eq_true.mp h b hb)
theorem tyX_rep {K : PySem.W.Frag} {w : Wd} {st : Sto} {H : Hp} {d : D} {v : V} (W : Wld K w st H) (R : Rep K w d v) : TyX K H v (.type (tyD d)) := by
  have lst : ∀ {a : Addr} {vs : List V}, SqL K H a vs → TyX K H (.ref a) (.type "list") := fun {a vs} q => by
    rcases q with (h | ⟨o, h⟩) | ⟨o, its, n, h, hc, _⟩
    · exact .base (.lst h)
    · exact .base (.frz h)
    · exact .kList h hc
  cases d with
  | non => simp only [Rep] at R; subst R; exact .base .non
  | bl b => simp only [Rep] at R; subst R; exact .base (.bl b)
  | int b => simp only [Rep] at R; subst R; exact .base (.int b)
  | str b => simp only [Rep] at R; subst R; exact .base (.str b)
  | lst xs => simp only [Rep] at R; obtain ⟨a, vs, rfl, q, _⟩ := R; exact .base (.lst (W.same _ _ q))
  | klst xs => simp only [Rep] at R; obtain ⟨a, vs, rfl, q, _⟩ := R; exact lst (W.same.seq q)
  | tup xs =>
    simp only [Rep] at R
    obtain ⟨a, vs, rfl, q, _⟩ := R
    exact .base (.tup (W.same _ _ q))
  | gtup xs =>
    simp only [Rep] at R
    obtain ⟨a, vs, rfl, q, _⟩ := R
    rcases seqT_mono W.same q with (h | ⟨o, h⟩) | ⟨o, its, n, h, hc, _⟩
    · exact .base (.tup h)
    · exact .fTuple h
    · exact .kTuple h hc
  | obj i =>
    simp only [Rep] at R
    obtain ⟨a, rfl, q, q2⟩ := R
    obtain ⟨_, _, o, _, h, h3⟩ := W.at_ i a q
    rw [q2] at h3
    obtain ⟨vs, rfl, _⟩ := h3
    exact .base (.lst h)
  | dic t i =>
    simp only [Rep] at R
    obtain ⟨a, rfl, q, q2⟩ := R
    obtain ⟨_, _, o, _, h, h3⟩ := W.at_ i a q
    rw [q2] at h3
    cases t with
    | false =>
      obtain ⟨vs, rfl, _⟩ := h3
      exact .base (.dK h)
    | true =>
      obtain ⟨vs, rfl, _⟩ := h3
      exact .base (.dT h)
  | fdic t rows =>
    cases t with
    | false =>
      simp only [Rep] at R
      obtain ⟨a, kvs, rfl, q, _⟩ := R
      exact .base (.dK (W.same _ _ q))
    | true =>
      simp only [Rep] at R
      obtain ⟨a, kvs, rfl, q, _⟩ := R
      exact .base (.dT (W.same _ _ q))
def dIsi (t : DE) (ts : List String) : DE := fun env st k => t env st fun d s1 => k (.bl (ts.any (subTy (tyD d)))) s1
theorem pd_isi {x : Str} {T : String} {q1 q2 : Pos} (hm : X.mg "isinstance" = none) (ha : PD X e ta) (hmx : X.mg x = none) (hv : bootBuiltins x = some (.type T)) (hT : T ∈ okTy := by decide)
    (hg : Gl X "isinstance" := by rfl) (hgx : Gl X x := by rfl) (hn : x ≠ "__name__" := by decide) (hdb : (x == ("__debug__" : Str)) = false := by decide)
    (he : starEach [e, .Name x q1] X.env = (false, eval e X.env) :: starEach [.Name x q1] X.env := by rfl) (he2 : starEach [.Name x q1] X.env = [(false, eval (.Name x q1) X.env)] := by rfl) (hpl : (backTo pos (starEach [.Name x q1] X.env)).any (·.1) = false := by rfl) :
    PD X (.Call (.Name "isinstance" q2) [e, .Name x q1] [] pos) (dIsi ta [T]) := by
  refine (pe_callB call_isi hg hm (by decide +kernel) (pa_cons ha (pa_cons (pe_bltn (v := .ty T) hgx hmx hv rfl hn hdb) pa_nil he2) he) (by decide) (by decide) he hpl).wk fun σ H Q ⟨w, env, st, kk, W, E, h, fo⟩ => ?_
  refine ⟨w, env, st, _, W, E, h, fun d st1 v w1 H1 h1 l1 W1 R1 => ⟨v, .ty T, _, _, _, rfl, .ty T, tyX_rep W1 R1, kit_ty (kit_at d hT), ?_⟩⟩
  have h2 : kk (.bl (subTy (tyD d) T || false)) st1 := h1
  rw [Bool.or_false] at h2
  exact fo _ _ _ _ _ h2 l1 W1 rep_bl
theorem Wld.other {K : PySem.W.Frag} {w : Wd} {st : Sto} {H : Hp} (W : Wld K w st H) {p : Addr} {o : HO} (h : H p = none) : Wld K w st (upd H p o) where
  same := fun b u e => by rw [upd_ne (ne_of_none (W.same b u e) h)]; exact W.same b u e
  len := W.len
  nd := W.nd
  at_ := fun i a e => by
    obtain ⟨g, xs, vs, h1, h2, h3⟩ := W.at_ i a e
    exact ⟨g, xs, vs, h1, by rw [upd_ne (ne_of_none h2 h)]; exact h2, h3⟩
  small := W.small
  hidd := fun a vs m => by
    obtain ⟨g, n, h1⟩ := W.hidd a vs m
    exact ⟨g, n, by rw [upd_ne (ne_of_none h1 h)]; exact h1⟩
  hnd := W.hnd
theorem pd_isi2 {x y : Str} {T U : String} {q1 q2 q3 : Pos} {k0 : Nat} {q4 : Pos} (hm : X.mg "isinstance" = none) (ha : PD X e ta) (hmx : X.mg x = none) (hv : bootBuiltins x = some (.type T)) (hmy : X.mg y = none) (hvy : bootBuiltins y = some (.type U)) (hT : T ∈ okTy := by decide) (hU : U ∈ okTy := by decide)
    (hg : Gl X "isinstance" := by rfl) (hgx : Gl X x := by rfl) (hn : x ≠ "__name__" := by decide) (hdb : (x == ("__debug__" : Str)) = false := by decide) (hgy : Gl X y := by rfl) (hny : y ≠ "__name__" := by decide) (hdby : (y == ("__debug__" : Str)) = false := by decide)
    (he : starEach [e, .Tuple [.Name x q1, .Name y q3] k0 q4] X.env = (false, eval e X.env) :: starEach [.Tuple [.Name x q1, .Name y q3] k0 q4] X.env := by rfl) (he2 : starEach [.Tuple [.Name x q1, .Name y q3] k0 q4] X.env = [(false, eval (.Tuple [.Name x q1, .Name y q3] k0 q4) X.env)] := by rfl)
    (he3 : starEach [.Name x q1, .Name y q3] X.env = (false, eval (.Name x q1) X.env) :: starEach [.Name y q3] X.env := by rfl) (he4 : starEach [.Name y q3] X.env = [(false, eval (.Name y q3) X.env)] := by rfl) (hpl : (backTo pos (starEach [.Tuple [.Name x q1, .Name y q3] k0 q4] X.env)).any (·.1) = false := by rfl) :
    PD X (.Call (.Name "isinstance" q2) [e, .Tuple [.Name x q1, .Name y q3] k0 q4] [] pos) (dIsi ta [T, U]) := by
  refine (pe_callB call_isiT hg hm (by decide +kernel) (pa_cons ha (pa_cons (pe_tup (pa_cons (pe_bltn (v := .ty T) hgx hmx hv rfl hn hdb) (pa_cons (pe_bltn (v := .ty U) hgy hmy hvy rfl hny hdby) pa_nil he4) he3)) pa_nil he2) he) (by decide) (by decide) he hpl).wk fun σ H Q ⟨w, env, st, kk, W, E, h, fo⟩ => ?_
  refine ⟨w, env, st, _, W, E, h, fun d st1 v w1 H1 h1 l1 W1 R1 => ⟨by show 2 ≤ sizeLine; decide, fun t ht => ?_⟩⟩
  have W2 := W1.other (o := .tup [.ty T, .ty U]) ht
  refine ⟨v, t, [.ty T, .ty U], _, [.type T, .type U], _, rfl, upd_same, .cons (.ty T) (.cons (.ty U) .nil), tyX_rep W2 R1, ?_, fo _ _ _ _ _ h1 l1 W2 rep_bl⟩
  show PySem.W.kitAny X.K (.type (tyD d)) [.type T, .type U] = some ([T, U].any (subTy (tyD d)))
  refine kitAny_cons (kit_ty (kit_at d hT)) (fun e1 => kitAny_cons (kit_ty (kit_at d hU)) (fun e2 => ?_) (fun e2 => ?_)) (fun e1 => ?_)
  · simp [List.any, e1, e2, kitAny_nil]
  · simp [List.any, e1, e2]
  · simp [List.any, e1]

/-! ### calls with keywords -/
/-- the values in the parameters' order: the written ones, then the keywords' -/
def kperm {α : Type} (ix : List Nat) (us ws : List α) : List α := ix.filterMap fun i => (us ++ ws)[i]?
theorem kperm_vals (ix : List Nat) {vs zs : List V} {us ws : List Value} (r1 : Vals vs us) (r2 : Vals zs ws) : Vals (kperm ix vs zs) (kperm ix us ws) := by
  have r := r1.append r2
  unfold kperm
  induction ix with
  | nil => exact .nil
  | cons j js ih =>
    cases e : (vs ++ zs)[j]? with
    | none => rw [List.filterMap_cons, List.filterMap_cons, e, r.none_of e]; exact ih
    | some v =>
      obtain ⟨u, e1, rv⟩ := r.get e
      rw [List.filterMap_cons, List.filterMap_cons, e, e1]
      exact .cons rv ih
theorem kperm_reps {K : PySem.W.Frag} {w : Wd} (ix : List Nat) {ds es : List D} {vs us : List V} (r1 : Reps K w ds vs) (r2 : Reps K w es us) : Reps K w (kperm ix ds es) (kperm ix vs us) := by
  have r := r1.append r2
  unfold kperm
  induction ix with
  | nil => exact .nil
  | cons j js ih =>
    cases e : (ds ++ es)[j]? with
    | none =>
      have e1 : (vs ++ us)[j]? = none := by
        rw [List.getElem?_eq_none_iff] at e ⊢
        rw [r.length]
        exact e
      rw [List.filterMap_cons, List.filterMap_cons, e, e1]
      exact ih
    | some d =>
      obtain ⟨u, e1, rv⟩ := r.get e
      rw [List.filterMap_cons, List.filterMap_cons, e, e1]
      exact .cons rv ih
theorem kbn_of {K : PySem.W.Frag} {x qual : Str} {params : Arguments} {body : List Stmt} {scope : Scope} {kws : List (Str × V)} {f : Addr} {fd : FuncData} {ps : List Str} (n : Nat) (ks : List Str) (ix : List Nat) (F : FunD K x qual params body scope [] kws f fd)
    (h : ∀ (kV doc pm : Value) (an : Option Addr) (cdv ct : Value) (us ws : List Value), us.length = n → ws.length = ks.length → bindArgs (PySem.W.fnOf x qual params body scope .none kV doc pm an cdv ct) ⟨us, ks.zip ws⟩ = pure (ps.zip (kperm ix us ws))) :
    KBn K fd ps n ks (kperm ix) (kperm ix) where
  to := fun s us ws X l1 l2 => by
    obtain ⟨oc, od, dV, kV, doc, pm, an, cdv, ct, osl, rfl, _, _, hD, _⟩ := F.ex
    rcases hD with ⟨_, rfl⟩ | ⟨hne, _⟩
    · exact .of_eq (h kV doc pm an cdv ct us ws l1 l2)
    · exact absurd rfl hne
  rel := fun r1 r2 => kperm_vals ix r1 r2
abbrev PDK (X : Cx) (kws : List Keyword) (t : DA) : Prop := PK X kws (tDA X.K t)
theorem _root_.L2.PK.wk {X : Cx} {kws : List Keyword} {t t' : TA} (h : PK X kws t) (i : ∀ σ H Q, t' σ H Q → t σ H Q) : PK X kws t' := ⟨fun ps pins s σ H Q I q => h.run ps pins s σ H Q I (i σ H Q q)⟩
theorem pdk_nil : PDK X [] dNil := pk_nil.wk fun σ H Q ⟨w, env, st, kk, W, E, h, fo⟩ => fo _ _ _ _ _ h (.refl _) W .nil
theorem pdk_cons {nm : Option Str} {kpos : Pos} {kws : List Keyword} {t : DE} {u : DA} (ha : PD X e t) (hr : PDK X kws u) : PDK X (⟨nm, e, kpos⟩ :: kws) (dCons t u) := by
  refine (pk_cons ha hr).wk fun σ H Q ⟨w, env, st, kk, W, E, h, fo⟩ => ?_
  exact ⟨w, env, st, _, W, E, h, fun d st1 v w1 H1 h1 l1 W1 R1 => ⟨w1, env, st1, _, W1, E.mono l1, h1, fun ds st2 vs w2 H2 h2 l2 W2 R2 =>
    fo _ _ _ _ _ h2 (l1.trans l2) W2 (.cons (Rep.mono l2 _ _ R1) R2)⟩⟩
def dCallK (n m : Nat) (ix : List Nat) (sp : SpD) (t tk : DA) : DE := fun env st k => t env st fun ds s1 => tk env s1 fun es s2 => ds.length = n ∧ es.length = m ∧ sp (kperm ix ds es) s2 k
variable {k : Nat} {f : Addr} {fd : FuncData} {ps ks : List Str} {sp : SpD} {x : Str} {kws : List Keyword}
theorem pd_callK {n : Nat} {ix : List Nat} {t tk : DA} (F : FnG X.prog X.w X.K X.mg X.base CX0 k f fd ps (spD X.K sp)) (hr : RoomG k X.A) (hm : X.mg x = some (.ref f)) (hk : PySem.W.keepIn X.K (.ref f) = true) (hb : KBn X.K fd ps n ks (kperm ix) (kperm ix))
    (ha : PDA X (e :: es) t) (hkw : PDK X kws tk) (hg : Gl X x := by rfl) (hall : (backToKw pos (keywordEach kws X.env)).all (·.1.isSome) = true := by rfl) (hks : (backToKw pos (keywordEach kws X.env)).filterMap (·.1) = ks := by rfl)
    (hdb : (x == ("__debug__" : Str)) = false := by decide) (he : starEach (e :: es) X.env = (false, eval e X.env) :: starEach es X.env := by rfl)
    (hpl : ((backTo pos (starEach (e :: es) X.env)).any (·.1) || (backToKw pos (keywordEach kws X.env)).any (·.1.isNone)) = false := by rfl) :
    PD X (.Call (.Name x p) (e :: es) kws pos) (dCallK n ks.length ix sp t tk) := by
  refine ⟨fun pins s σ H Q I ⟨w, env, st, kk, W, E, h, fo⟩ => ?_⟩
  refine wpAny_Call_Name_kw (ld_glob I hg hm ?_ hdb)
  refine PySem.W.callWith_KW (h₀ := X.base) I.ok.mod.kin hk hall (thn (ha.run pos pins s σ H (fun vs H1 => tDA X.K tk σ H1 fun zs H2 => vs.length = n ∧ zs.length = ks.length ∧ spD X.K sp (kperm ix vs zs) H2 Q E0) I ⟨w, env, st, _, W, E, h, fun ds st1 vs w1 H1 h1 l1 W1 R1 =>
    ⟨w1, env, st1, _, W1, E.mono l1, h1, fun es st2 us w2 H2 h2 l2 W2 R2 => ?_⟩⟩) fun us s1 ⟨vs, H1, I1, r, q⟩ => ?_) hpl he
  · exact ⟨R1.length.trans h2.1, R2.length.trans h2.2.1, w2, st2, _, kk, W2, kperm_reps ix (Reps.mono l2 _ _ R1) R2, h2.2.2, fo.le (l1.trans l2)⟩
  · refine thn (hkw.run pos pins s1 σ H1 _ I1 q) fun ws s2 ⟨zs, H2, I2, rz, l1, l2, q2⟩ => ⟨I2.kIn, ?_⟩
    rw [hks]
    exact run_fnG F hr pass0 I2 (hb.to s2 us ws I2.kIn (r.length.symm.trans l1) (rz.length.symm.trans l2)) (hb.rel r rz) q2
theorem pd_callK0 {ix : List Nat} {tk : DA} (F : FnG X.prog X.w X.K X.mg X.base CX0 k f fd ps (spD X.K sp)) (hr : RoomG k X.A) (hm : X.mg x = some (.ref f)) (hk : PySem.W.keepIn X.K (.ref f) = true) (hb : KBn X.K fd ps 0 ks (kperm ix) (kperm ix))
    (hkw : PDK X kws tk) (hg : Gl X x := by rfl) (hall : (backToKw pos (keywordEach kws X.env)).all (·.1.isSome) = true := by rfl) (hks : (backToKw pos (keywordEach kws X.env)).filterMap (·.1) = ks := by rfl)
    (hdb : (x == ("__debug__" : Str)) = false := by decide)
    (hpl : ((backTo pos (starEach [] X.env)).any (·.1) || (backToKw pos (keywordEach kws X.env)).any (·.1.isNone)) = false := by rfl) :
    PD X (.Call (.Name x p) [] kws pos) (dCallK 0 ks.length ix sp dNil tk) := by
  refine ⟨fun pins s σ H Q I ⟨w, env, st, kk, W, E, h, fo⟩ => ?_⟩
  refine wpAny_Call_Name_kw (ld_glob I hg hm ?_ hdb)
  refine PySem.W.callWith_KW0 (h₀ := X.base) I.ok.mod.kin hk hall ?_ hpl
  refine thn (hkw.run pos pins s σ H (fun zs H2 => zs.length = ks.length ∧ spD X.K sp (kperm ix [] zs) H2 Q E0) I ⟨w, env, st, _, W, E, h, fun es st2 us w2 H2 h2 l2 W2 R2 => ?_⟩) fun ws s2 ⟨zs, H2, I2, rz, l2, q2⟩ => ⟨I2.kIn, ?_⟩
  · exact ⟨R2.length.trans h2.2.1, w2, st2, _, kk, W2, kperm_reps ix .nil R2, h2.2.2, fo.le l2⟩
  · rw [hks]
    exact run_fnG F hr pass0 I2 (hb.to s2 [] ws I2.kIn rfl (rz.length.symm.trans l2)) (hb.rel .nil rz) q2
end

/-! ### behind a def: its own lists are frozen -/
mutual
def sub (n : Nat) (a : List D) : D → D
  | .non => .non
  | .bl b => .bl b
  | .int b => .int b
  | .str b => .str b
  | .lst xs => .lst (subs n a xs)
  | .klst xs => .klst (subs n a xs)
  | .tup xs => .tup (subs n a xs)
  | .obj i => if i = n then .lst a else .obj i
  | .dic t i => if i = n then .fdic t a else .dic t i
  | .fdic t rows => .fdic t (subs n a rows)
  | .gtup xs => .gtup (subs n a xs)
def subs (n : Nat) (a : List D) : List D → List D
  | [] => []
  | x :: xs => sub n a x :: subs n a xs
end
mutual
def below (n : Nat) : D → Bool
  | .lst xs => belows n xs
  | .klst xs => belows n xs
  | .tup xs => belows n xs
  | .obj i => decide (i < n)
  | .dic _ i => decide (i < n)
  | .fdic _ rows => belows n rows
  | .gtup xs => belows n xs
  | _ => true
def belows (n : Nat) : List D → Bool
  | [] => true
  | x :: xs => below n x && belows n xs
end
theorem subs_map (n : Nat) (a : List D) : ∀ xs : List D, subs n a xs = xs.map (sub n a)
  | [] => rfl
  | x :: xs => by simp only [subs, List.map_cons, subs_map n a xs]
mutual
theorem sub_below {n : Nat} {a : List D} : ∀ d : D, below n d = true → sub n a d = d
  | .non, _ => by simp only [sub]
  | .bl _, _ => by simp only [sub]
  | .int _, _ => by simp only [sub]
  | .str _, _ => by simp only [sub]
  | .lst xs, h => by simp only [below] at h; simp only [sub, subs_below xs h]
  | .klst xs, h => by simp only [below] at h; simp only [sub, subs_below xs h]
  | .tup xs, h => by simp only [below] at h; simp only [sub, subs_below xs h]
  | .obj i, h => by
    simp only [below, decide_eq_true_eq] at h
    simp only [sub]
    rw [if_neg (by omega)]
  | .dic t i, h => by
    simp only [below, decide_eq_true_eq] at h
    simp only [sub]
    rw [if_neg (by omega)]
  | .fdic t rows, h => by simp only [below] at h; simp only [sub, subs_below rows h]
  | .gtup rows, h => by simp only [below] at h; simp only [sub, subs_below rows h]
theorem subs_below {n : Nat} {a : List D} : ∀ ds : List D, belows n ds = true → subs n a ds = ds
  | [], _ => by simp only [subs]
  | x :: xs, h => by
    simp only [belows, Bool.and_eq_true] at h
    simp only [subs, sub_below x h.1, subs_below xs h.2]
end
mutual
theorem below_mono {n m : Nat} (l : n ≤ m) : ∀ d : D, below n d = true → below m d = true
  | .non, _ => by simp only [below]
  | .bl _, _ => by simp only [below]
  | .int _, _ => by simp only [below]
  | .str _, _ => by simp only [below]
  | .lst xs, h => by simp only [below] at h ⊢; exact belows_mono l xs h
  | .klst xs, h => by simp only [below] at h ⊢; exact belows_mono l xs h
  | .tup xs, h => by simp only [below] at h ⊢; exact belows_mono l xs h
  | .obj i, h => by
    simp only [below, decide_eq_true_eq] at h ⊢
    omega
  | .dic t i, h => by
    simp only [below, decide_eq_true_eq] at h ⊢
    omega
  | .fdic t rows, h => by simp only [below] at h ⊢; exact belows_mono l rows h
  | .gtup rows, h => by simp only [below] at h ⊢; exact belows_mono l rows h
theorem belows_mono {n m : Nat} (l : n ≤ m) : ∀ ds : List D, belows n ds = true → belows m ds = true
  | [], _ => by simp only [belows]
  | x :: xs, h => by
    simp only [belows, Bool.and_eq_true] at h ⊢
    exact ⟨below_mono l x h.1, belows_mono l xs h.2⟩
end
theorem key_below {n : Nat} {d : D} {y : Key} (h : keyD d = some y) : below n d = true := by
  cases d <;> first | rfl | (simp only [below]; done) | simp [keyD] at h
theorem keys_below {n : Nat} : ∀ {ds : List D} {ys : List Key}, keysD ds = some ys → belows n ds = true
  | [], _, _ => rfl
  | d :: r, ys, h => by
    unfold keysD at h
    cases h1 : keyD d with
    | none => rw [h1] at h; cases h
    | some y =>
      cases h2 : keysD r with
      | none => rw [h1, h2] at h; cases h
      | some zs => simp only [belows, key_below h1, keys_below h2, Bool.and_true]
theorem tkey_below {n : Nat} {d : D} {y : List Key} (h : tkeyD d = some y) : below n d = true := by
  cases d with
  | tup xs => simp only [below]; exact keys_below h
  | _ => cases h
section
variable {K : PySem.W.Frag} {w w' : Wd} {st : Sto} {H : Hp}
mutual
theorem rep_below : ∀ (d : D) (v : V), Rep K w d v → below w.as.length d = true
  | .non, _, _ => by simp only [below]
  | .bl _, _, _ => by simp only [below]
  | .int _, _, _ => by simp only [below]
  | .str _, _, _ => by simp only [below]
  | .lst xs, v, h => by
    simp only [Rep] at h
    obtain ⟨a, vs, _, _, r⟩ := h
    simp only [below]
    exact reps_below xs vs r
  | .klst xs, v, h => by
    simp only [Rep] at h
    obtain ⟨a, vs, _, _, r⟩ := h
    simp only [below]
    exact reps_below xs vs r
  | .tup xs, v, h => by
    simp only [Rep] at h
    obtain ⟨a, vs, _, _, r⟩ := h
    simp only [below]
    exact reps_below xs vs r
  | .gtup xs, v, h => by
    simp only [Rep] at h
    obtain ⟨a, vs, _, _, r⟩ := h
    simp only [below]
    exact reps_below xs vs r
  | .obj i, v, h => by
    simp only [Rep] at h
    obtain ⟨a, _, q, _⟩ := h
    simp only [below, decide_eq_true_eq]
    exact (List.getElem?_eq_some_iff.mp q).1
  | .dic t i, v, h => by
    simp only [Rep] at h
    obtain ⟨a, _, q, _⟩ := h
    simp only [below, decide_eq_true_eq]
    exact (List.getElem?_eq_some_iff.mp q).1
  | .fdic false rows, v, h => by
    simp only [Rep] at h
    obtain ⟨a, kvs, _, _, _, r⟩ := h
    simp only [below]
    exact rowsK_below rows kvs r
  | .fdic true rows, v, h => by
    simp only [Rep] at h
    obtain ⟨a, kvs, _, _, _, r⟩ := h
    simp only [below]
    exact rowsT_below rows kvs r
theorem rowsK_below : ∀ (ds : List D) (kvs : List (Key × V)), RowsK K w ds kvs → belows w.as.length ds = true
  | [], _, _ => by simp only [belows]
  | .tup [k, d] :: ds, kvs, h => by
    simp only [RowsK] at h
    obtain ⟨y, v, r, _, h1, h2, h3⟩ := h
    simp only [belows, below, Bool.and_true, Bool.and_eq_true]
    exact ⟨⟨key_below h1, rep_below d v h2⟩, rowsK_below ds r h3⟩
  | .tup [] :: _, _, h => by simp only [RowsK] at h
  | .tup [_] :: _, _, h => by simp only [RowsK] at h
  | .tup (_ :: _ :: _ :: _) :: _, _, h => by simp only [RowsK] at h
  | .non :: _, _, h => by simp only [RowsK] at h
  | .bl _ :: _, _, h => by simp only [RowsK] at h
  | .int _ :: _, _, h => by simp only [RowsK] at h
  | .str _ :: _, _, h => by simp only [RowsK] at h
  | .lst _ :: _, _, h => by simp only [RowsK] at h
  | .klst _ :: _, _, h => by simp only [RowsK] at h
  | .obj _ :: _, _, h => by simp only [RowsK] at h
  | .dic _ _ :: _, _, h => by simp only [RowsK] at h
  | .fdic _ _ :: _, _, h => by simp only [RowsK] at h
  | .gtup _ :: _, _, h => by simp only [RowsK] at h
theorem rowsT_below : ∀ (ds : List D) (kvs : List (List Key × V)), RowsT K w ds kvs → belows w.as.length ds = true
  | [], _, _ => by simp only [belows]
  | .tup [k, d] :: ds, kvs, h => by
    simp only [RowsT] at h
    obtain ⟨y, v, r, _, h1, h2, h3⟩ := h
    simp only [belows, below, Bool.and_true, Bool.and_eq_true]
    exact ⟨⟨tkey_below h1, rep_below d v h2⟩, rowsT_below ds r h3⟩
  | .tup [] :: _, _, h => by simp only [RowsT] at h
  | .tup [_] :: _, _, h => by simp only [RowsT] at h
  | .tup (_ :: _ :: _ :: _) :: _, _, h => by simp only [RowsT] at h
  | .non :: _, _, h => by simp only [RowsT] at h
  | .bl _ :: _, _, h => by simp only [RowsT] at h
  | .int _ :: _, _, h => by simp only [RowsT] at h
  | .str _ :: _, _, h => by simp only [RowsT] at h
  | .lst _ :: _, _, h => by simp only [RowsT] at h
  | .klst _ :: _, _, h => by simp only [RowsT] at h
  | .obj _ :: _, _, h => by simp only [RowsT] at h
  | .dic _ _ :: _, _, h => by simp only [RowsT] at h
  | .fdic _ _ :: _, _, h => by simp only [RowsT] at h
  | .gtup _ :: _, _, h => by simp only [RowsT] at h
theorem reps_below : ∀ (ds : List D) (vs : List V), Reps K w ds vs → belows w.as.length ds = true
  | [], _, _ => by simp only [belows]
  | x :: xs, vs, h => by
    obtain ⟨v, r, rfl, h1, h2⟩ := h.inv
    simp only [belows, Bool.and_eq_true]
    exact ⟨rep_below x v h1, reps_below xs r h2⟩
end
theorem entR_below {k : Option Bool} {xs : List D} {o : HO} (h : EntR K w k xs o) : belows w.as.length xs = true := by
  match k, h with
  | none, ⟨vs, _, _, r⟩ => exact reps_below _ _ r
  | some false, ⟨vs, _, _, r⟩ => exact rowsK_below _ _ r
  | some true, ⟨vs, _, _, r⟩ => exact rowsT_below _ _ r
mutual
/-- the last object of the store frozen: what is represented -/
theorem rep_sub {p : Addr} {o : HO} {a : List D} {as : List Addr} (e : w.as = as ++ [p]) (e' : w'.as = as) (ed : w'.dk = w.dk) (s : Same w.G w'.G) (g : w'.G p = some o) (r : EntR K w' (w.dk p) a o) : ∀ (d : D) (v : V), Rep K w d v → Rep K w' (sub as.length a d) v
  | .non, _, h => by simpa only [Rep, sub] using h
  | .bl _, _, h => by simpa only [Rep, sub] using h
  | .int _, _, h => by simpa only [Rep, sub] using h
  | .str _, _, h => by simpa only [Rep, sub] using h
  | .lst xs, v, h => by
    simp only [Rep] at h
    obtain ⟨b, vs, e1, q, r1⟩ := h
    simp only [sub, Rep]
    exact ⟨b, vs, e1, s _ _ q, reps_sub e e' ed s g r xs vs r1⟩
  | .klst xs, v, h => by
    simp only [Rep] at h
    obtain ⟨b, vs, e1, q, r1⟩ := h
    simp only [sub, Rep]
    exact ⟨b, vs, e1, s.seq q, reps_sub e e' ed s g r xs vs r1⟩
  | .tup xs, v, h => by
    simp only [Rep] at h
    obtain ⟨b, vs, e1, q, r1⟩ := h
    simp only [sub, Rep]
    exact ⟨b, vs, e1, s _ _ q, reps_sub e e' ed s g r xs vs r1⟩
  | .gtup xs, v, h => by
    simp only [Rep] at h
    obtain ⟨b, vs, e1, q, r1⟩ := h
    simp only [sub, Rep]
    exact ⟨b, vs, e1, seqT_mono s q, reps_sub e e' ed s g r xs vs r1⟩
  | .obj i, v, h => by
    simp only [Rep] at h
    obtain ⟨b, e1, q, q2⟩ := h
    simp only [sub]
    rw [e] at q
    by_cases hi : i = as.length
    · subst hi
      rw [List.getElem?_concat_length] at q
      cases q
      rw [if_pos rfl]
      rw [q2] at r
      obtain ⟨us, rfl, _, r⟩ := r
      simp only [Rep]
      exact ⟨p, us, e1, g, r⟩
    · rw [if_neg hi]
      simp only [Rep]
      refine ⟨b, e1, ?_, by rw [ed]; exact q2⟩
      have hlt : i < (as ++ [p]).length := (List.getElem?_eq_some_iff.mp q).1
      rw [List.length_append, List.length_singleton] at hlt
      rw [List.getElem?_append_left (by omega)] at q
      rw [e']
      exact q
  | .dic t i, v, h => by
    simp only [Rep] at h
    obtain ⟨b, e1, q, q2⟩ := h
    simp only [sub]
    rw [e] at q
    by_cases hi : i = as.length
    · subst hi
      rw [List.getElem?_concat_length] at q
      cases q
      rw [if_pos rfl]
      rw [q2] at r
      cases t with
      | false =>
        obtain ⟨kvs, rfl, n, r⟩ := r
        simp only [Rep]
        exact ⟨p, kvs, e1, g, n, r⟩
      | true =>
        obtain ⟨kvs, rfl, n, r⟩ := r
        simp only [Rep]
        exact ⟨p, kvs, e1, g, n, r⟩
    · rw [if_neg hi]
      simp only [Rep]
      refine ⟨b, e1, ?_, by rw [ed]; exact q2⟩
      have hlt : i < (as ++ [p]).length := (List.getElem?_eq_some_iff.mp q).1
      rw [List.length_append, List.length_singleton] at hlt
      rw [List.getElem?_append_left (by omega)] at q
      rw [e']
      exact q
  | .fdic false rows, v, h => by
    simp only [Rep] at h
    obtain ⟨b, kvs, e1, q, n, r1⟩ := h
    simp only [sub, Rep]
    exact ⟨b, kvs, e1, s _ _ q, n, rowsK_sub e e' ed s g r rows kvs r1⟩
  | .fdic true rows, v, h => by
    simp only [Rep] at h
    obtain ⟨b, kvs, e1, q, n, r1⟩ := h
    simp only [sub, Rep]
    exact ⟨b, kvs, e1, s _ _ q, n, rowsT_sub e e' ed s g r rows kvs r1⟩
theorem rowsK_sub {p : Addr} {o : HO} {a : List D} {as : List Addr} (e : w.as = as ++ [p]) (e' : w'.as = as) (ed : w'.dk = w.dk) (s : Same w.G w'.G) (g : w'.G p = some o) (r : EntR K w' (w.dk p) a o) : ∀ (ds : List D) (kvs : List (Key × V)), RowsK K w ds kvs → RowsK K w' (subs as.length a ds) kvs
  | [], _, h => by simpa only [RowsK, subs] using h
  | .tup [k, d] :: ds, kvs, h => by
    simp only [RowsK] at h
    obtain ⟨y, v, r1, e1, h1, h2, h3⟩ := h
    simp only [subs, sub, RowsK]
    exact ⟨y, v, r1, e1, by rw [sub_below k (key_below h1)]; exact h1, rep_sub e e' ed s g r d v h2, rowsK_sub e e' ed s g r ds r1 h3⟩
  | .tup [] :: _, _, h => by simp only [RowsK] at h
  | .tup [_] :: _, _, h => by simp only [RowsK] at h
  | .tup (_ :: _ :: _ :: _) :: _, _, h => by simp only [RowsK] at h
  | .non :: _, _, h => by simp only [RowsK] at h
  | .bl _ :: _, _, h => by simp only [RowsK] at h
  | .int _ :: _, _, h => by simp only [RowsK] at h
  | .str _ :: _, _, h => by simp only [RowsK] at h
  | .lst _ :: _, _, h => by simp only [RowsK] at h
  | .klst _ :: _, _, h => by simp only [RowsK] at h
  | .obj _ :: _, _, h => by simp only [RowsK] at h
  | .dic _ _ :: _, _, h => by simp only [RowsK] at h
  | .fdic _ _ :: _, _, h => by simp only [RowsK] at h
  | .gtup _ :: _, _, h => by simp only [RowsK] at h
theorem rowsT_sub {p : Addr} {o : HO} {a : List D} {as : List Addr} (e : w.as = as ++ [p]) (e' : w'.as = as) (ed : w'.dk = w.dk) (s : Same w.G w'.G) (g : w'.G p = some o) (r : EntR K w' (w.dk p) a o) : ∀ (ds : List D) (kvs : List (List Key × V)), RowsT K w ds kvs → RowsT K w' (subs as.length a ds) kvs
  | [], _, h => by simpa only [RowsT, subs] using h
  | .tup [k, d] :: ds, kvs, h => by
    simp only [RowsT] at h
    obtain ⟨y, v, r1, e1, h1, h2, h3⟩ := h
    simp only [subs, sub, RowsT]
    exact ⟨y, v, r1, e1, by rw [sub_below k (tkey_below h1)]; exact h1, rep_sub e e' ed s g r d v h2, rowsT_sub e e' ed s g r ds r1 h3⟩
  | .tup [] :: _, _, h => by simp only [RowsT] at h
  | .tup [_] :: _, _, h => by simp only [RowsT] at h
  | .tup (_ :: _ :: _ :: _) :: _, _, h => by simp only [RowsT] at h
  | .non :: _, _, h => by simp only [RowsT] at h
  | .bl _ :: _, _, h => by simp only [RowsT] at h
  | .int _ :: _, _, h => by simp only [RowsT] at h
  | .str _ :: _, _, h => by simp only [RowsT] at h
  | .lst _ :: _, _, h => by simp only [RowsT] at h
  | .klst _ :: _, _, h => by simp only [RowsT] at h
  | .obj _ :: _, _, h => by simp only [RowsT] at h
  | .dic _ _ :: _, _, h => by simp only [RowsT] at h
  | .fdic _ _ :: _, _, h => by simp only [RowsT] at h
  | .gtup _ :: _, _, h => by simp only [RowsT] at h
theorem reps_sub {p : Addr} {o : HO} {a : List D} {as : List Addr} (e : w.as = as ++ [p]) (e' : w'.as = as) (ed : w'.dk = w.dk) (s : Same w.G w'.G) (g : w'.G p = some o) (r : EntR K w' (w.dk p) a o) : ∀ (ds : List D) (vs : List V), Reps K w ds vs → Reps K w' (subs as.length a ds) vs
  | [], _, h => by simpa only [Reps, subs] using h
  | x :: xs, vs, h => by
    obtain ⟨v, r1, rfl, h1, h2⟩ := h.inv
    simp only [subs]
    exact .cons (rep_sub e e' ed s g r x v h1) (reps_sub e e' ed s g r xs r1 h2)
end
mutual
theorem rep_low {as m : List Addr} (e : w.as = as ++ m) (e' : w'.as = as) (ed : w'.dk = w.dk) (s : Same w.G w'.G) : ∀ (d : D) (v : V), below as.length d = true → Rep K w d v → Rep K w' d v
  | .non, _, _, h => by simpa only [Rep] using h
  | .bl _, _, _, h => by simpa only [Rep] using h
  | .int _, _, _, h => by simpa only [Rep] using h
  | .str _, _, _, h => by simpa only [Rep] using h
  | .lst xs, v, l, h => by
    simp only [below] at l
    simp only [Rep] at h ⊢
    obtain ⟨b, vs, e1, q, r1⟩ := h
    exact ⟨b, vs, e1, s _ _ q, reps_low e e' ed s xs vs l r1⟩
  | .klst xs, v, l, h => by
    simp only [below] at l
    simp only [Rep] at h ⊢
    obtain ⟨b, vs, e1, q, r1⟩ := h
    exact ⟨b, vs, e1, s.seq q, reps_low e e' ed s xs vs l r1⟩
  | .tup xs, v, l, h => by
    simp only [below] at l
    simp only [Rep] at h ⊢
    obtain ⟨b, vs, e1, q, r1⟩ := h
    exact ⟨b, vs, e1, s _ _ q, reps_low e e' ed s xs vs l r1⟩
  | .gtup xs, v, l, h => by
    simp only [below] at l
    simp only [Rep] at h ⊢
    obtain ⟨b, vs, e1, q, r1⟩ := h
    exact ⟨b, vs, e1, seqT_mono s q, reps_low e e' ed s xs vs l r1⟩
  | .obj i, v, l, h => by
    simp only [below, decide_eq_true_eq] at l
    simp only [Rep] at h ⊢
    obtain ⟨b, e1, q, q2⟩ := h
    refine ⟨b, e1, ?_, by rw [ed]; exact q2⟩
    rw [e, List.getElem?_append_left l] at q
    rw [e']
    exact q
  | .dic t i, v, l, h => by
    simp only [below, decide_eq_true_eq] at l
    simp only [Rep] at h ⊢
    obtain ⟨b, e1, q, q2⟩ := h
    refine ⟨b, e1, ?_, by rw [ed]; exact q2⟩
    rw [e, List.getElem?_append_left l] at q
    rw [e']
    exact q
  | .fdic false rows, v, l, h => by
    simp only [below] at l
    simp only [Rep] at h ⊢
    obtain ⟨b, kvs, e1, q, n, r1⟩ := h
    exact ⟨b, kvs, e1, s _ _ q, n, rowsK_low e e' ed s rows kvs l r1⟩
  | .fdic true rows, v, l, h => by
    simp only [below] at l
    simp only [Rep] at h ⊢
    obtain ⟨b, kvs, e1, q, n, r1⟩ := h
    exact ⟨b, kvs, e1, s _ _ q, n, rowsT_low e e' ed s rows kvs l r1⟩
theorem rowsK_low {as m : List Addr} (e : w.as = as ++ m) (e' : w'.as = as) (ed : w'.dk = w.dk) (s : Same w.G w'.G) : ∀ (ds : List D) (kvs : List (Key × V)), belows as.length ds = true → RowsK K w ds kvs → RowsK K w' ds kvs
  | [], _, _, h => by simpa only [RowsK] using h
  | .tup [k, d] :: ds, kvs, l, h => by
    simp only [belows, below, Bool.and_true, Bool.and_eq_true] at l
    simp only [RowsK] at h ⊢
    obtain ⟨y, v, r1, e1, h1, h2, h3⟩ := h
    exact ⟨y, v, r1, e1, h1, rep_low e e' ed s d v l.1.2 h2, rowsK_low e e' ed s ds r1 l.2 h3⟩
  | .tup [] :: _, _, _, h => by simp only [RowsK] at h
  | .tup [_] :: _, _, _, h => by simp only [RowsK] at h
  | .tup (_ :: _ :: _ :: _) :: _, _, _, h => by simp only [RowsK] at h
  | .non :: _, _, _, h => by simp only [RowsK] at h
  | .bl _ :: _, _, _, h => by simp only [RowsK] at h
  | .int _ :: _, _, _, h => by simp only [RowsK] at h
  | .str _ :: _, _, _, h => by simp only [RowsK] at h
  | .lst _ :: _, _, _, h => by simp only [RowsK] at h
  | .klst _ :: _, _, _, h => by simp only [RowsK] at h
  | .obj _ :: _, _, _, h => by simp only [RowsK] at h
  | .dic _ _ :: _, _, _, h => by simp only [RowsK] at h
  | .fdic _ _ :: _, _, _, h => by simp only [RowsK] at h
  | .gtup _ :: _, _, _, h => by simp only [RowsK] at h
theorem rowsT_low {as m : List Addr} (e : w.as = as ++ m) (e' : w'.as = as) (ed : w'.dk = w.dk) (s : Same w.G w'.G) : ∀ (ds : List D) (kvs : List (List Key × V)), belows as.length ds = true → RowsT K w ds kvs → RowsT K w' ds kvs
  | [], _, _, h => by simpa only [RowsT] using h
  | .tup [k, d] :: ds, kvs, l, h => by
    simp only [belows, below, Bool.and_true, Bool.and_eq_true] at l
    simp only [RowsT] at h ⊢
    obtain ⟨y, v, r1, e1, h1, h2, h3⟩ := h
    exact ⟨y, v, r1, e1, h1, rep_low e e' ed s d v l.1.2 h2, rowsT_low e e' ed s ds r1 l.2 h3⟩
  | .tup [] :: _, _, _, h => by simp only [RowsT] at h
  | .tup [_] :: _, _, _, h => by simp only [RowsT] at h
  | .tup (_ :: _ :: _ :: _) :: _, _, _, h => by simp only [RowsT] at h
  | .non :: _, _, _, h => by simp only [RowsT] at h
  | .bl _ :: _, _, _, h => by simp only [RowsT] at h
  | .int _ :: _, _, _, h => by simp only [RowsT] at h
  | .str _ :: _, _, _, h => by simp only [RowsT] at h
  | .lst _ :: _, _, _, h => by simp only [RowsT] at h
  | .klst _ :: _, _, _, h => by simp only [RowsT] at h
  | .obj _ :: _, _, _, h => by simp only [RowsT] at h
  | .dic _ _ :: _, _, _, h => by simp only [RowsT] at h
  | .fdic _ _ :: _, _, _, h => by simp only [RowsT] at h
  | .gtup _ :: _, _, _, h => by simp only [RowsT] at h
theorem reps_low {as m : List Addr} (e : w.as = as ++ m) (e' : w'.as = as) (ed : w'.dk = w.dk) (s : Same w.G w'.G) : ∀ (ds : List D) (vs : List V), belows as.length ds = true → Reps K w ds vs → Reps K w' ds vs
  | [], _, _, h => by simpa only [Reps] using h
  | x :: xs, vs, l, h => by
    simp only [belows, Bool.and_eq_true] at l
    obtain ⟨v, r1, rfl, h1, h2⟩ := h.inv
    exact .cons (rep_low e e' ed s x v l.1 h1) (reps_low e e' ed s xs r1 l.2 h2)
end
theorem entR_low {as m : List Addr} (e : w.as = as ++ m) (e' : w'.as = as) (ed : w'.dk = w.dk) (s : Same w.G w'.G) {k : Option Bool} {xs : List D} {o : HO} (l : belows as.length xs = true) (h : EntR K w k xs o) : EntR K w' k xs o := by
  match k, h with
  | none, ⟨vs, z, n, r⟩ => exact ⟨vs, z, n, reps_low e e' ed s _ _ l r⟩
  | some false, ⟨vs, z, n, r⟩ => exact ⟨vs, z, n, rowsK_low e e' ed s _ _ l r⟩
  | some true, ⟨vs, z, n, r⟩ => exact ⟨vs, z, n, rowsT_low e e' ed s _ _ l r⟩
theorem entR_sub {p : Addr} {o : HO} {a : List D} {as : List Addr} (e : w.as = as ++ [p]) (e' : w'.as = as) (ed : w'.dk = w.dk) (s : Same w.G w'.G) (g : w'.G p = some o) (r : EntR K w' (w.dk p) a o) {k : Option Bool} {xs : List D} {u : HO} (h : EntR K w k xs u) : EntR K w' k (xs.map (sub as.length a)) u := by
  rw [← subs_map]
  match k, h with
  | none, ⟨vs, z, n, q⟩ => exact ⟨vs, z, n, reps_sub e e' ed s g r _ _ q⟩
  | some false, ⟨vs, z, n, q⟩ => exact ⟨vs, z, n, rowsK_sub e e' ed s g r _ _ q⟩
  | some true, ⟨vs, z, n, q⟩ => exact ⟨vs, z, n, rowsT_sub e e' ed s g r _ _ q⟩
theorem entR_small {k : Option Bool} {xs : List D} {o : HO} (h : EntR K w k xs o) : SizeOk o := by
  cases k with
  | none =>
    obtain ⟨vs, rfl, n, _⟩ := h
    exact n
  | some t =>
    cases t with
    | false =>
      obtain ⟨vs, rfl, _⟩ := h
      trivial
    | true =>
      obtain ⟨vs, rfl, _⟩ := h
      trivial
theorem frz_one {sx : Sto} {b : List D} (W : Wld K w (sx ++ [b]) H) (hb : belows sx.length b = true) :
    ∃ w', (∃ m, w.as = w'.as ++ m) ∧ Same w.G w'.G ∧ (w'.hid = w.hid ∧ w'.dk = w.dk) ∧ Wld K w' (sx.map (List.map (sub sx.length b))) H ∧ ∀ d v, Rep K w d v → Rep K w' (sub sx.length b d) v := by
  have hlen : w.as.length = sx.length + 1 := by rw [W.len, List.length_append, List.length_singleton]
  obtain ⟨as, p, e⟩ : ∃ as p, w.as = as ++ [p] := by
    refine ⟨w.as.dropLast, w.as.getLast (fun z => by rw [z] at hlen; simp at hlen), ?_⟩
    rw [List.dropLast_concat_getLast]
  have elen : as.length = sx.length := by
    rw [e, List.length_append, List.length_singleton] at hlen
    omega
  obtain ⟨g, xs, us, h1, h2, h3⟩ := W.at_ as.length p (by rw [e, List.getElem?_concat_length])
  have exs : xs = b := by
    rw [elen, List.getElem?_concat_length] at h1
    exact (Option.some.inj h1).symm
  subst exs
  have s : Same w.G (upd w.G p us) := fun c u q => by
    rw [upd_ne (ne_of_none q g)]
    exact q
  have R0 : EntR K ⟨upd w.G p us, as, w.hid, w.dk⟩ (w.dk p) xs us := entR_low (w' := ⟨upd w.G p us, as, w.hid, w.dk⟩) e rfl rfl s (by rw [elen]; exact hb) h3
  have conv : ∀ d v, Rep K w d v → Rep K ⟨upd w.G p us, as, w.hid, w.dk⟩ (sub sx.length xs d) v := fun d v h => by
    rw [← elen]
    exact rep_sub (w' := ⟨upd w.G p us, as, w.hid, w.dk⟩) e rfl rfl s upd_same R0 d v h
  have convs : ∀ {k : Option Bool} {ds : List D} {u : HO}, EntR K w k ds u → EntR K ⟨upd w.G p us, as, w.hid, w.dk⟩ k (ds.map (sub sx.length xs)) u := fun h => by
    rw [← elen]
    exact entR_sub (w' := ⟨upd w.G p us, as, w.hid, w.dk⟩) e rfl rfl s upd_same R0 h
  have nd : (as ++ [p]).Nodup := by rw [← e]; exact W.nd
  have pas : p ∉ as := fun z => (List.nodup_append.mp nd).2.2 p z p (by simp) rfl
  have inas : p ∈ w.as := by rw [e]; simp
  refine ⟨⟨upd w.G p us, as, w.hid, w.dk⟩, ⟨[p], e⟩, s, ⟨rfl, rfl⟩, ⟨fun c u q => ?_, by rw [List.length_map]; exact elen, (List.nodup_append.mp nd).1, fun i a q => ?_, fun c u q => ?_, fun c vs m => ?_, W.hnd⟩, conv⟩
  · have q' : upd w.G p us c = some u := q
    by_cases hc : c = p
    · subst hc
      rw [upd_same] at q'
      cases q'
      exact h2
    · rw [upd_ne hc] at q'
      exact W.same c u q'
  · have hlt : i < as.length := (List.getElem?_eq_some_iff.mp q).1
    obtain ⟨g', ys, vs, k1, k2, k3⟩ := W.at_ i a (by rw [e, List.getElem?_append_left hlt]; exact q)
    have ne : a ≠ p := fun z => pas (by rw [← z]; exact List.mem_of_getElem? q)
    rw [List.getElem?_append_left (by omega)] at k1
    refine ⟨?_, ys.map (sub sx.length xs), vs, by rw [List.getElem?_map, k1]; rfl, k2, convs k3⟩
    show upd w.G p us a = none
    rw [upd_ne ne]
    exact g'
  · have q' : upd w.G p us c = some u := q
    by_cases hc : c = p
    · subst hc
      rw [upd_same] at q'
      cases q'
      exact entR_small h3
    · rw [upd_ne hc] at q'
      exact W.small c u q'
  · obtain ⟨g', n, k1⟩ := W.hidd c vs m
    have ne : c ≠ p := fun z => n (by rw [z]; exact inas)
    refine ⟨?_, fun z => n (by rw [e]; exact List.mem_append_left _ z), k1⟩
    show upd w.G p us c = none
    rw [upd_ne ne]
    exact g'
/-- the store's lists from place n on, frozen in what is told -/
def frzs : Nat → List (List D) → D → D
  | _, [], d => d
  | n, a :: r, d => sub n (a.map (frzs (n + 1) r)) (frzs (n + 1) r d)
def SafeLoc : Nat → List (List D) → Prop
  | _, [] => True
  | n, a :: r => belows n (a.map (frzs (n + 1) r)) = true ∧ SafeLoc (n + 1) r
theorem frz_loc : ∀ (loc : List (List D)) (w : Wd) (s1 : Sto), Wld K w (s1 ++ loc) H → SafeLoc s1.length loc →
    ∃ w', (∃ m, w.as = w'.as ++ m) ∧ Same w.G w'.G ∧ (w'.hid = w.hid ∧ w'.dk = w.dk) ∧ Wld K w' (s1.map (List.map (frzs s1.length loc))) H ∧ ∀ d v, Rep K w d v → Rep K w' (frzs s1.length loc d) v
  | [], w, s1, W, _ => by
    refine ⟨w, ⟨[], by simp⟩, Same.refl _, ⟨rfl, rfl⟩, ?_, fun d v h => h⟩
    have e : s1.map (List.map (frzs s1.length [])) = s1 := by
      have : List.map (frzs s1.length []) = id := by
        funext xs
        show xs.map (fun d => d) = xs
        simp
      rw [this, List.map_id]
    rw [e]
    rw [List.append_nil] at W
    exact W
  | a :: r, w, s1, W, h => by
    have W' : Wld K w ((s1 ++ [a]) ++ r) H := by rw [List.append_assoc]; exact W
    have n1 : (s1 ++ [a]).length = s1.length + 1 := by simp
    obtain ⟨w1, p1, g1, hd1, W1, c1⟩ := frz_loc r w (s1 ++ [a]) W' (by rw [n1]; exact h.2)
    rw [n1] at W1 c1
    rw [List.map_append, List.map_singleton] at W1
    have n2 : (s1.map (List.map (frzs (s1.length + 1) r))).length = s1.length := by simp
    obtain ⟨w2, p2, g2, hd2, W2, c2⟩ := frz_one W1 (by rw [n2]; exact h.1)
    rw [n2] at W2 c2
    refine ⟨w2, ?_, g1.trans g2, ⟨hd2.1.trans hd1.1, hd2.2.trans hd1.2⟩, ?_, fun d v q => c2 _ _ (c1 d v q)⟩
    · obtain ⟨m1, e1⟩ := p1
      obtain ⟨m2, e2⟩ := p2
      exact ⟨m2 ++ m1, by rw [e1, e2, List.append_assoc]⟩
    · have e : s1.map (List.map (frzs s1.length (a :: r))) = (s1.map (List.map (frzs (s1.length + 1) r))).map (List.map (sub s1.length (a.map (frzs (s1.length + 1) r)))) := by
        rw [List.map_map]
        congr 1
        funext xs
        show xs.map (frzs s1.length (a :: r)) = (xs.map (frzs (s1.length + 1) r)).map (sub s1.length (a.map (frzs (s1.length + 1) r)))
        rw [List.map_map]
        rfl
      rw [e]
      exact W2
theorem frzs_below : ∀ (loc : List (List D)) (n : Nat) (d : D), below n d = true → frzs n loc d = d
  | [], _, _, _ => rfl
  | a :: r, n, d, h => by
    show sub n _ (frzs (n + 1) r d) = d
    rw [frzs_below r (n + 1) d (below_mono (Nat.le_succ n) d h)]
    exact sub_below d h
theorem belows_mem {n : Nat} : ∀ {xs : List D} {d : D}, belows n xs = true → d ∈ xs → below n d = true
  | [], _, _, m => by cases m
  | x :: xs, d, h, m => by
    simp only [belows, Bool.and_eq_true] at h
    rcases List.mem_cons.mp m with rfl | m
    · exact h.1
    · exact belows_mem h.2 m
/-- what a def leaves: st1 in the place of the callers' store, loc its own lists -/
def Frz (st : Sto) (d : D) (st' : Sto) (kk : DK) : Prop := ∃ st1 loc, st' = st1 ++ loc ∧ st1.length = st.length ∧ (∀ (i : Nat) (xs : List D), st1[i]? = some xs → st[i]? = some xs ∨ belows st.length xs = true) ∧ SafeLoc st.length loc ∧ kk (frzs st.length loc d) st1
theorem Frz.none {st : Sto} {d : D} {kk : DK} (h : kk d st) : Frz st d st kk := ⟨st, [], by simp, rfl, fun _ _ e => .inl e, trivial, h⟩
theorem Frz.one {st : Sto} {a : List D} {d : D} {kk : DK} (hb : belows st.length a = true) (h : kk (sub st.length a d) st) : Frz st d (st ++ [a]) kk := by
  have e : a.map (frzs (st.length + 1) []) = a := by
    show a.map (fun d => d) = a
    simp
  refine ⟨st, [a], rfl, rfl, fun _ _ e => .inl e, ⟨?_, trivial⟩, ?_⟩
  · rw [e]; exact hb
  · show kk (sub st.length (a.map (frzs (st.length + 1) [])) d) st
    rw [e]
    exact h
theorem fol_frz {kk : DK} {Q : VK} (W : Wld K w st H) (fo : Fol K w kk Q) : Fol K w (fun d st' => Frz st d st' kk) Q := by
  rintro d st' v w1 H' ⟨st1, loc, rfl, hl, hs, hloc, k⟩ l1 W1 R1
  rw [← hl] at hloc
  obtain ⟨w2, p2, g2, hd2, W2, c2⟩ := frz_loc loc w1 st1 W1 hloc
  have low : ∀ xs ∈ st1, belows st1.length xs = true := fun xs m => by
    obtain ⟨i, hi⟩ := List.getElem?_of_mem m
    rcases hs i xs hi with h | h
    · have hi' : i < w.as.length := by
        rw [W.len, ← hl]
        exact (List.getElem?_eq_some_iff.mp hi).1
      obtain ⟨_, ys, vs, k1, _, k4⟩ := W.at_ i w.as[i] (by rw [List.getElem?_eq_getElem hi'])
      rw [h] at k1
      cases k1
      rw [hl, ← W.len]
      exact entR_below k4
    · rw [hl]; exact h
  have est : st1.map (List.map (frzs st1.length loc)) = st1 := by
    have : ∀ xs ∈ st1, List.map (frzs st1.length loc) xs = xs := fun xs m => by
      have hx := low xs m
      have : ∀ d ∈ xs, frzs st1.length loc d = d := fun d md => frzs_below loc _ d (belows_mem hx md)
      rw [List.map_congr_left this]
      simp
    rw [List.map_congr_left this]
    simp
  rw [est] at W2
  have eas : w2.as = w.as := by
    obtain ⟨m1, e1⟩ := l1.pre.as
    obtain ⟨m2, e2⟩ := p2
    have n2 : w2.as.length = w.as.length := by rw [W2.len, hl, W.len]
    have h : w2.as ++ m2 = w.as ++ m1 := by rw [← e2, e1]
    exact (List.append_inj h n2).1
  refine fo _ _ v w2 H' k ⟨⟨l1.same.trans g2, ⟨[], by rw [eas]; simp⟩, fun a ha => by rw [hd2.2]; exact l1.pre.dk a ha⟩, hd2.1.trans l1.hid⟩ W2 ?_
  rw [← hl]
  exact c2 d v R1
end

/-! ### a def keeps its promise -/
def startD (N : List Str) (ds : List D) : Env := ds.map some ++ List.replicate (N.length - ds.length) none
theorem startD_rep {K : PySem.W.Frag} {w : Wd} {N : List Str} {ds : List D} {vs : List V} (R : Reps K w ds vs) : EnvR K w (startD N ds) (L2.start N vs) := by
  unfold startD L2.start
  refine ⟨by simp [R.length], fun i d e => ?_⟩
  by_cases hi : i < ds.length
  · rw [List.getElem?_append_left (by simpa using hi), List.getElem?_map, List.getElem?_eq_getElem hi] at e
    obtain ⟨v, h1, h2⟩ := R.get (i := i) (d := d) (by rw [List.getElem?_eq_getElem hi]; simpa using e)
    refine ⟨v, ?_, h2⟩
    rw [List.getElem?_append_left (by rw [List.length_map, R.length]; exact hi), List.getElem?_map, h1]
    rfl
  · rw [List.getElem?_append_right (by simpa using hi), List.getElem?_replicate] at e
    split at e <;> cases e
section
variable {P : Program} {wo : World} {K : PySem.W.Frag} {mg : Str → Option Value} {base : Heap} {x qual : Str} {params : Arguments} {body : List Stmt} {scope : Scope} {kws : List (Str × V)} {f : Addr} {fd : FuncData} {N ps : List Str} {k : Nat} {sp : SpD} {t : DS}
/-- what the body reads to: frozen (fz) or as it stands -/
def BodyD (fz : Bool) (N : List Str) (sp : SpD) (t : DS) : Prop := ∀ ds st kk, sp ds st kk →
  t ⟨fun _ st' => if fz = true then Frz st .non st' kk else kk .non st', fun d st' => if fz = true then Frz st d st' kk else kk d st'⟩ (startD N ds) st
theorem fnD (fz : Bool) (F : FunD K x qual params body scope [] kws f fd) (S : FnScope N ps scope) (len : ∀ ds st kk, sp ds st kk → ds.length = ps.length)
    (hd : ∀ (cdv : Value) (A : Around) (outer : List PySem.Env) (s : Shared) (H : Hp) (E : XK), RoomG k (A.deeper (envOfC qual scope s.heap.objs.size f cdv)) → PDSs (cxOf CX0 P wo K mg base N qual scope f cdv A outer s H E).nox body t)
    (hp : BodyD fz N sp t) : FnG P wo K mg base CX0 (k + 1) f fd ps (spD K sp) := by
  refine fnG_body F S (fun vs H Q E ⟨w, st, ds, kk, W, R, q, fo⟩ => R.length.trans (len ds st kk q)) fun cdv A outer s H vs Q E hr ⟨w, st, ds, kk, W, R, q, fo⟩ => ?_
  refine ⟨_, PSs.nox (hd cdv A outer s H E hr), w, startD N ds, st, _, W, startD_rep R, hp ds st kk q, ?_, ?_⟩
  · intro env' st' σ' w' H' h l W' E'
    cases fz with
    | true => exact fol_frz W fo _ _ _ _ _ h l W' rep_non
    | false => exact fo _ _ _ _ _ h l W' rep_non
  · cases fz with
    | true => exact fol_frz W fo
    | false => exact fo
end

/-! ### the law -/
/-- what is promised of a law: True, whatever numbers the script has -/
def spLaw : SpD := fun ds st kk => ∃ ns : List Int, ds = [.klst (ns.map D.int)] ∧ ns.length ≤ 63 ∧ (∀ z ∈ ns, Builtin.Int.intBits z ≤ 1048576) ∧ st = [] ∧ ∀ st', kk (.bl true) st'
theorem law_start {K : PySem.W.Frag} {H : Hp} {a : Addr} {ns : List Int} (hn : ns.length ≤ 63) (hb : ∀ z ∈ ns, Builtin.Int.intBits z ≤ 1048576) (hS : SqL K H a (ns.map V.int)) : spD K spLaw [.ref a] H (fun v _ => v = .bl true) fun _ _ _ => False := by
  have small : (ns.map V.int).length ≤ sizeLine := by rw [List.length_map, sizeLine_eq]; omega
  have fin : ∀ G : Hp, Same G H → (∀ a u, G a = some u → SizeOk u) → SqL K G a (ns.map V.int) → spD K spLaw [.ref a] H (fun v _ => v = .bl true) fun _ _ _ => False := fun G s sm q => by
    refine ⟨⟨G, [], [], fun _ => none⟩, [], [.klst (ns.map D.int)], fun d _ => d = .bl true, ⟨s, rfl, List.nodup_nil, fun i a e => (by simp at e), sm, fun a vs m => (by cases m), List.nodup_nil⟩, .cons ?_ .nil, ⟨ns, rfl, hn, hb, rfl, fun _ => rfl⟩, fun d st' v w' H' e _ _ R => ?_⟩
    · simp only [Rep]
      exact ⟨a, _, rfl, q, Reps.of_ints ns⟩
    · subst e
      simpa only [Rep] using R
  rcases hS with (h | ⟨o, h⟩) | h
  · refine fin (fun b => if b = a then some (.lst (ns.map V.int)) else none) (fun b u e => ?_) (fun b u e => ?_) (.of (if_pos rfl))
    · by_cases hb : b = a
      · subst hb
        have e' := (if_pos rfl).symm.trans e
        cases e'
        exact h
      · have e' := (if_neg hb).symm.trans e
        cases e'
    · by_cases hb : b = a
      · have e' := (if_pos hb).symm.trans e
        cases e'
        exact small
      · have e' := (if_neg hb).symm.trans e
        cases e'
  · refine fin (fun b => if b = a then some (.frz o (.lst (ns.map V.int))) else none) (fun b u e => ?_) (fun b u e => ?_) (.inl (.inr ⟨o, if_pos rfl⟩))
    · by_cases hb : b = a
      · subst hb
        have e' := (if_pos rfl).symm.trans e
        cases e'
        exact h
      · have e' := (if_neg hb).symm.trans e
        cases e'
    · by_cases hb : b = a
      · have e' := (if_pos hb).symm.trans e
        cases e'
        exact small
      · have e' := (if_neg hb).symm.trans e
        cases e'
  · exact fin (fun _ => none) (fun b u e => by cases e) (fun b u e => by cases e) (.inr h)
/-- the end of a law's proof, the script's sizes told -/
theorem law_end {l : PySem.W.OpenLaw} {k : Nat} {q : Program} {loose : List Str} {XP : (Str → Option Value) → Heap → Prop} {YP : World → Heap → Prop} {d : DefRec} {x : Str}
    (hn : l.most = some 63) (hdf : d.params.defaults = []) (hr : RoomG k callerA)
    (F : ∀ (w : World) (mg : Str → Option Value) (fa : Addr) (h : Heap), YP w h → h.Ns mainGlobals mg → mg d.name = some (.ref fa) →
      ∃ (K : PySem.W.Frag) (fd : FuncData), K.In h ∧ (∀ (s : Shared) (u : Value), BindsTo s fd ⟨[u], []⟩ [(x, u)]) ∧
        ∀ base : Heap, K.In base → base.Ns mainGlobals mg → FnG l.prog w K mg base CX0 k fa fd [x] (spD K spLaw)) :
    PySem.W.WalkO q loose XP YP l.row.toRowW d [] (fun f vs => PySem.call f vs) := by
  refine Att.attach_callB hn hdf ?_
  intro w s₀ s₁ mg mb fa o pm cd doc a vs ns G Y ho hd hcd hmg hobj hints hlen hbits hg
  obtain ⟨K, fd, KX, hb, hF⟩ := F w mg fa _ Y G.T.g hmg
  refine law_callG KX G.T.g G.T.b G.T.builtins G.T.nolimit hg hobj hints (Nat.le_trans hlen (by decide)) hr hF hb ?_ ?_
  · exact fun H _ hS => law_start hlen hbits hS
  · exact fun H e s' z => z
end DL

namespace DL
open PySem PySem.Spec PyProof.Rows L2
/-! ### callees, as a def's derivation takes them -/
def Cal (P : Program) (wo : World) (K : PySem.W.Frag) (mg : Str → Option Value) (base : Heap) (k : Nat) (nm : Str) (ps : List Str) (sp : SpD) : Prop :=
  ∃ f fd, mg nm = some (.ref f) ∧ PySem.W.keepIn K (.ref f) = true ∧ FnG P wo K mg base CX0 k f fd ps (spD K sp) ∧ Binds K fd ps []
def Calk (P : Program) (wo : World) (K : PySem.W.Frag) (mg : Str → Option Value) (base : Heap) (k : Nat) (nm : Str) (ps : List Str) (sp : SpD) (n : Nat) (ks : List Str) (ix : List Nat) : Prop :=
  ∃ f fd, mg nm = some (.ref f) ∧ PySem.W.keepIn K (.ref f) = true ∧ FnG P wo K mg base CX0 k f fd ps (spD K sp) ∧ KBn K fd ps n ks (kperm ix) (kperm ix)
section
variable {P : Program} {wo : World} {K : PySem.W.Frag} {mg : Str → Option Value} {base : Heap} {k j : Nat} {nm : Str} {ps : List Str} {sp : SpD}
theorem Cal.up (c : Cal P wo K mg base k nm ps sp) (h : k ≤ j) : Cal P wo K mg base j nm ps sp :=
  let ⟨f, fd, a, b, F, d⟩ := c; ⟨f, fd, a, b, F.mono h, d⟩
theorem Calk.up {n : Nat} {ks : List Str} {ix : List Nat} (c : Calk P wo K mg base k nm ps sp n ks ix) (h : k ≤ j) : Calk P wo K mg base j nm ps sp n ks ix :=
  let ⟨f, fd, a, b, F, d⟩ := c; ⟨f, fd, a, b, F.mono h, d⟩
variable {X : Cx} {e : Expr} {es : List Expr} {p pos : Pos} {t tk : DA}
theorem pd_callC (c : Cal X.prog X.w X.K X.mg X.base k nm ps sp) (hr : RoomG j X.A)
    (ha : PDA X (e :: es) t) (hkj : k ≤ j := by decide) (hg : Gl X nm := by rfl) (hdb : (nm == ("__debug__" : Str)) = false := by decide) (he : starEach (e :: es) X.env = (false, eval e X.env) :: starEach es X.env := by rfl) (hpl : (backTo pos (starEach es X.env)).any (·.1) = false := by rfl) :
    PD X (.Call (.Name nm p) (e :: es) [] pos) (dCall sp t) := by
  obtain ⟨f, fd, a, b, F, d⟩ := c
  exact pd_call F (hr.mono hkj) a b d ha hg hdb he hpl
theorem pd_callC0 (c : Cal X.prog X.w X.K X.mg X.base k nm ps sp) (hr : RoomG j X.A) (hkj : k ≤ j := by decide) (hg : Gl X nm := by rfl) (hdb : (nm == ("__debug__" : Str)) = false := by decide) : PD X (.Call (.Name nm p) [] [] pos) (dCall sp dNil) := by
  obtain ⟨f, fd, a, b, F, d⟩ := c
  exact pd_call0 F (hr.mono hkj) a b d hg hdb
theorem pd_callC1 {n m : Nat} {ks : List Str} {ix : List Nat} {kws : List Keyword} (c : Calk X.prog X.w X.K X.mg X.base k nm ps sp n ks ix) (hr : RoomG j X.A)
    (ha : PDA X (e :: es) t) (hkw : PDK X kws tk) (hm : ks.length = m := by rfl) (hkj : k ≤ j := by decide) (hg : Gl X nm := by rfl) (hall : (backToKw pos (keywordEach kws X.env)).all (·.1.isSome) = true := by rfl) (hks : (backToKw pos (keywordEach kws X.env)).filterMap (·.1) = ks := by rfl)
    (hdb : (nm == ("__debug__" : Str)) = false := by decide) (he : starEach (e :: es) X.env = (false, eval e X.env) :: starEach es X.env := by rfl)
    (hpl : ((backTo pos (starEach (e :: es) X.env)).any (·.1) || (backToKw pos (keywordEach kws X.env)).any (·.1.isNone)) = false := by rfl) : PD X (.Call (.Name nm p) (e :: es) kws pos) (dCallK n m ix sp t tk) := by
  subst hm
  obtain ⟨f, fd, a, b, F, d⟩ := c
  exact pd_callK F (hr.mono hkj) a b d ha hkw hg hall hks hdb he hpl
theorem pd_callC2 {m : Nat} {ks : List Str} {ix : List Nat} {kws : List Keyword} (c : Calk X.prog X.w X.K X.mg X.base k nm ps sp 0 ks ix) (hr : RoomG j X.A)
    (hkw : PDK X kws tk) (hm : ks.length = m := by rfl) (hkj : k ≤ j := by decide) (hg : Gl X nm := by rfl) (hall : (backToKw pos (keywordEach kws X.env)).all (·.1.isSome) = true := by rfl) (hks : (backToKw pos (keywordEach kws X.env)).filterMap (·.1) = ks := by rfl)
    (hdb : (nm == ("__debug__" : Str)) = false := by decide)
    (hpl : ((backTo pos (starEach [] X.env)).any (·.1) || (backToKw pos (keywordEach kws X.env)).any (·.1.isNone)) = false := by rfl) : PD X (.Call (.Name nm p) [] kws pos) (dCallK 0 m ix sp dNil tk) := by
  subst hm
  obtain ⟨f, fd, a, b, F, d⟩ := c
  exact pd_callK0 F (hr.mono hkj) a b d hkw hg hall hks hdb hpl
end
/-- a def without defaults as it stands behind the top -/
abbrev FnP (K : PySem.W.Frag) (x : Str) (st : Stmt) (f : Addr) (fd : FuncData) : Prop := FunD K x x (defArgs st) (defBody st) (defScope st) [] [] f fd
/-- a promise that is the body's own reading: nothing is said of it -/
def inl (fz : Bool) (N : List Str) (n : Nat) (t : DS) : SpD := fun ds st kk => ds.length = n ∧
  t ⟨fun _ st' => if fz = true then Frz st .non st' kk else kk .non st', fun d st' => if fz = true then Frz st d st' kk else kk d st'⟩ (startD N ds) st
theorem inl_body (fz : Bool) (N : List Str) (n : Nat) (t : DS) : BodyD fz N (inl fz N n t) t := fun _ _ _ h => h.2
end DL

/-! readings evaluated: one equation a form -/
namespace DL
open PySem PySem.Spec PyProof.Rows L2
def testK (k : Bool → Sto → Prop) : DK := fun d s1 => match d with
  | .bl b => k b s1
  | _ => False
def truK (k : Bool → Sto → Prop) : DK := fun d s1 => OkTru s1 d ∧ k (truD s1 d) s1
def andK (u : DE) (env : DL.Env) (k : DK) : DK := fun d s1 => match d with
  | .bl b => if b = true then u env s1 k else k (.bl false) s1
  | _ => False
def orK (u : DE) (env : DL.Env) (k : DK) : DK := fun d s1 => match d with
  | .bl b => if b = true then k (.bl true) s1 else u env s1 k
  | _ => False
def notK (k : DK) : DK := fun d s1 => match d with
  | .bl b => k (.bl (!b)) s1
  | _ => False
def chK (g : F2) (tc : DE) (env : DL.Env) (y : D) (k : DK) : DK := fun z s3 => match z with
  | .bl b => if b = true then tc env s3 fun u s4 => g y u s4 k else k (.bl false) s3
  | _ => False
def someK (k : Option Int → Sto → Prop) : DK := fun d s1 => match d with
  | .int i => k (some i) s1
  | _ => False
def iterK (kk : DIk) : DK := fun d s1 => match deref s1 d with
  | .lst xs => xs.length ≤ 16777216 → kk xs (srcOf d xs) s1
  | .tup xs => xs.length ≤ 16777216 → kk xs [] s1
  | .str z => kk (signs z) [] s1
  | _ => False
def enumK (kk : DIk) : DK := fun d s1 => match deref s1 d with
  | .lst xs => xs.length ≤ 16777216 → kk (enumD 0 xs) (srcOf d xs) s1
  | .tup xs => xs.length ≤ 16777216 → kk (enumD 0 xs) [] s1
  | _ => False
def zipK (kk : DIk) (d : D) : DK := fun e s2 => match deref s2 d, deref s2 e with
  | .lst xs, .lst ys => xs.length ≤ 16777216 → kk (zipD xs ys) (srcOf d xs ++ srcOf e ys) s2
  | .tup xs, .tup ys => xs.length ≤ 16777216 → kk (zipD xs ys) [] s2
  | _, _ => False
def rng1K (kk : DIk) : DK := fun d s1 => match d with
  | .int j => (-(2 ^ 62) ≤ j ∧ j < 2 ^ 62) ∧ kk (rangeD 0 j.toNat) [] s1
  | _ => False
def rng2K (kk : DIk) (d : D) : DK := fun e s2 => match d, e with
  | .int i, .int j => (-(2 ^ 62) ≤ i ∧ i < 2 ^ 62 ∧ -(2 ^ 62) ≤ j ∧ j < 2 ^ 62) ∧ kk (rangeD i (j - i).toNat) [] s2
  | _, _ => False
def tupK (n : Nat) (g : DGs) (env : DL.Env) (k : DL.Env → Sto → Prop) (st : Sto) (d : D) : Prop := match deref st d with
  | .tup xs => xs.length = n ∧ g xs env st k
  | _ => False
def parK (i j : Nat) (env : DL.Env) (nx : DL.Env → Sto → Prop) : List D → Sto → Prop := fun ds s1 => match ds with
  | [d, e] => dgName i d env s1 fun env1 s2 => dgName j e env1 s2 nx
  | _ => False
section
variable {env r : DL.Env} {st : Sto} {k : DK} {kt : Bool → Sto → Prop} {ka : List D → Sto → Prop} {kg : DL.Env → Sto → Prop} {kk : DIk} {d e : D} {ds es : List D} {a : Option D} {n m i j : Nat} {t u v : DE} {c c2 : DT} {ta tb : DA} {f g : F2} {f1 : F1} {fb : FB} {fm : FM} {sp : SpD} {E : DEnds} {s1 s2 : DS} {tg : DG} {tgs : DGs} {di : DI} {o o2 : DO} {fc : D → Option Int → Option Int → Sto → DK → Prop}
theorem e_v0 : dVar 0 (some d :: r) st k = k d st := rfl
theorem e_vs : dVar (n + 1) (a :: r) st k = dVar n r st k := rfl
theorem e_c : dC d env st k = k d st := rfl
theorem e_op : dOp f t u env st k = t env st fun x s1 => u env s1 fun y s2 => f x y s2 k := rfl
theorem e_un : dUn f1 t env st k = t env st fun x s1 => f1 x s1 k := rfl
theorem e_test : dTest t env st kt = t env st (testK kt) := rfl
theorem e_testK {b : Bool} : testK kt (.bl b) st = kt b st := rfl
theorem e_tru : dTru t env st kt = t env st (truK kt) := rfl
theorem e_truL : truK kt (.lst ds) st = kt (!ds.isEmpty) st := by simp [truK, OkTru, truD, deref]
theorem e_truT : truK kt (.tup ds) st = kt (!ds.isEmpty) st := by simp [truK, OkTru, truD, deref]
theorem e_truB {b : Bool} : truK kt (.bl b) st = kt b st := by simp [truK, OkTru, truD, deref]
theorem e_truI {b : Int} : truK kt (.int b) st = kt (b != 0) st := by simp [truK, OkTru, truD, deref]
theorem e_truN : truK kt .non st = kt false st := by simp [truK, OkTru, truD, deref]
theorem e_truS {x : Str} : truK kt (.str x) st = (x.length ≤ sizeLine ∧ kt ((x.length : Int) != 0) st) := by simp [truK, OkTru, truD, deref]
theorem e_truO {xs : List D} (h : st[i]? = some xs) : truK kt (.obj i) st = kt (!xs.isEmpty) st := by simp [truK, OkTru, truD, deref, h]
theorem e_not : dNot c env st kt = c env st fun b s1 => kt (!b) s1 := rfl
theorem e_and : dAnd c c2 env st kt = c env st fun b s1 => if b = true then c2 env s1 kt else kt false s1 := rfl
theorem e_or : dOr c c2 env st kt = c env st fun b s1 => if b = true then kt true s1 else c2 env s1 kt := rfl
theorem e_andv : dAndV t u env st k = t env st (andK u env k) := rfl
theorem e_orv : dOrV t u env st k = t env st (orK u env k) := rfl
theorem e_notv : dNotV t env st k = t env st (notK k) := rfl
theorem e_andK {b : Bool} : andK u env k (.bl b) st = if b = true then u env st k else k (.bl false) st := rfl
theorem e_orK {b : Bool} : orK u env k (.bl b) st = if b = true then k (.bl true) st else u env st k := rfl
theorem e_notK {b : Bool} : notK k (.bl b) st = k (.bl (!b)) st := rfl
theorem e_if : dIf c t u env st k = c env st fun b s1 => if b = true then t env s1 k else u env s1 k := rfl
theorem e_nil : dNil env st ka = ka [] st := rfl
theorem e_cons : dCons t ta env st ka = t env st fun d s1 => ta env s1 fun ds s2 => ka (d :: ds) s2 := rfl
theorem e_tup : dTup ta env st k = ta env st fun ds s1 => ds.length ≤ 16777216 ∧ k (.tup ds) s1 := rfl
theorem e_lst : dLst ta env st k = ta env st fun ds s1 => ds.length ≤ 16777216 ∧ k (.lst ds) s1 := rfl
theorem e_new : dNew ta env st k = ta env st fun ds s1 => ds.length ≤ 16777216 ∧ k (.obj s1.length) (s1 ++ [ds]) := rfl
theorem e_call : dCall sp ta env st k = ta env st fun ds s1 => sp ds s1 k := rfl
theorem e_callK {ix : List Nat} : dCallK n m ix sp ta tb env st k = ta env st fun ds s1 => tb env s1 fun es s2 => ds.length = n ∧ es.length = m ∧ sp (kperm ix ds es) s2 k := rfl
theorem e_drop : dDrop t E env st = t env st fun _ s1 => E.nx env s1 := rfl
theorem e_ret : dRet t E env st = t env st E.rt := rfl
theorem e_retN : dRetN E env st = E.rt .non st := rfl
theorem e_pass : dPass E env st = E.nx env st := rfl
theorem e_ifS : dIfS c s1 s2 E env st = c env st fun b s => if b = true then s1 E env s else s2 E env s := rfl
theorem e_g0 : dgName 0 d (a :: r) st kg = kg (some d :: r) st := rfl
theorem e_gs : dgName (n + 1) d (a :: r) st kg = dgName n d r st fun env' st' => kg (a :: env') st' := rfl
theorem e_gnil : dgNil [] env st kg = kg env st := rfl
theorem e_gcons : dgCons tg tgs (d :: ds) env st kg = tg d env st fun env' st' => tgs ds env' st' kg := rfl
theorem e_gtup : dgTup n tgs (.tup ds) env st kg = (ds.length = n ∧ tgs ds env st kg) := rfl
theorem e_asg : dAsg t tg E env st = t env st fun d s1 => tg d env s1 E.nx := rfl
theorem set_name {n : Nat} {d : D} : ∀ {env : DL.Env} {kg : DL.Env → Sto → Prop}, dgName n d env st kg = kg (env.set n (some d)) st := rfl
theorem e_par : dPar i j ta E env st = ta env st (parK i j env E.nx) := by
  unfold dPar
  congr 1
theorem e_parK : parK i j env kg [d, e] st = dgName i d env st fun env1 s2 => dgName j e env1 s2 kg := rfl
theorem e_chain : dChain f g t u v env st k = t env st fun x s1 => u env s1 fun y s2 => f x y s2 (chK g v env y k) := rfl
theorem e_chK {b : Bool} : chK g v env e k (.bl b) st = if b = true then v env st fun w s4 => g e w s4 k else k (.bl false) st := rfl
theorem e_no {ko : Option Int → Sto → Prop} : dNo env st ko = ko none st := rfl
theorem e_some {ko : Option Int → Sto → Prop} : dSome t env st ko = t env st (someK ko) := rfl
theorem e_someK {ko : Option Int → Sto → Prop} {b : Int} : someK ko (.int b) st = ko (some b) st := rfl
theorem e_cut : dCut fc t o o2 env st k = t env st fun d s1 => o env s1 fun lo s2 => o2 env s2 fun hi s3 => fc d lo hi s3 k := rfl
theorem e_b : dB fb ta env st k = ta env st fun ds s1 => fb ds s1 k := rfl
theorem e_iter : dIter t env st kk = t env st (iterK kk) := rfl
theorem e_iterL : iterK kk (.lst ds) st = (ds.length ≤ 16777216 → kk ds [] st) := rfl
theorem e_iterT : iterK kk (.tup ds) st = (ds.length ≤ 16777216 → kk ds [] st) := rfl
theorem e_iterS {x : Str} : iterK kk (.str x) st = kk (signs x) [] st := rfl
theorem e_iterO {xs : List D} (h : st[i]? = some xs) : iterK kk (.obj i) st = (xs.length ≤ 16777216 → kk xs [(i, xs)] st) := by simp [iterK, deref, srcOf, h]
theorem e_rng1 : dRng1 t env st kk = t env st (rng1K kk) := rfl
theorem e_rng1K {b : Int} : rng1K kk (.int b) st = ((-(2 ^ 62) ≤ b ∧ b < 2 ^ 62) ∧ kk (rangeD 0 b.toNat) [] st) := rfl
theorem e_rng2 : dRng2 t u env st kk = t env st fun d s1 => u env s1 (rng2K kk d) := rfl
theorem e_rng2K {a b : Int} : rng2K kk (.int a) (.int b) st = ((-(2 ^ 62) ≤ a ∧ a < 2 ^ 62 ∧ -(2 ^ 62) ≤ b ∧ b < 2 ^ 62) ∧ kk (rangeD a (b - a).toNat) [] st) := rfl
theorem e_enum : dEnum t env st kk = t env st (enumK kk) := rfl
theorem e_enumL : enumK kk (.lst ds) st = (ds.length ≤ 16777216 → kk (enumD 0 ds) [] st) := rfl
theorem e_enumT : enumK kk (.tup ds) st = (ds.length ≤ 16777216 → kk (enumD 0 ds) [] st) := rfl
theorem e_zip : dZip t u env st kk = t env st fun d s1 => u env s1 (zipK kk d) := rfl
theorem e_zipL : zipK kk (.lst ds) (.lst es) st = (ds.length ≤ 16777216 → kk (zipD ds es) [] st) := rfl
theorem e_zipT : zipK kk (.tup ds) (.tup es) st = (ds.length ≤ 16777216 → kk (zipD ds es) [] st) := rfl
theorem e_zipO {xs : List D} (h : st[i]? = some xs) : zipK kk (.obj i) (.lst es) st = (xs.length ≤ 16777216 → kk (zipD xs es) [(i, xs)] st) := by simp [zipK, deref, srcOf, h]
theorem e_for : dFor di tg s1 E env st = di env st fun xs src s => goFor src tg s1 E xs env s := rfl
theorem e_lc {vs : List Nat} : dLc di tg c t vs env st k = di env st fun xs src s1 => xs.length ≤ 16777216 ∧ goLc src tg c t vs env (fun acc s2 => k (.lst acc) s2) xs [] s1 := rfl
theorem e_lcNew {vs : List Nat} : dLcNew di tg c t vs env st k = di env st fun xs src s1 => xs.length ≤ 16777216 ∧ goLc src tg c t vs env (fun acc s2 => k (.obj s2.length) (s2 ++ [acc])) xs [] s1 := rfl
theorem e_forN {src : List (Nat × List D)} : goFor src tg s1 E [] env st = (SrcOk src st ∧ E.nx env st) := rfl
theorem e_forC {src : List (Nat × List D)} {x : D} {xs : List D} : goFor src tg s1 E (x :: xs) env st = (SrcOk src st ∧ tg x env st fun env' st' => s1 ⟨fun env2 st2 => goFor src tg s1 E xs env2 st2, E.rt⟩ env' st') := rfl
theorem e_lcN {src : List (Nat × List D)} {vs : List Nat} : goLc src tg c t vs env ka [] ds st = (SrcOk src st ∧ ka ds st) := rfl
theorem e_lcC {src : List (Nat × List D)} {vs : List Nat} {x : D} {xs : List D} : goLc src tg c t vs env ka (x :: xs) ds st = (SrcOk src st ∧ tg x (wipeE env vs) st fun env' st' => c env' st' fun b s1 =>
      if b = true then t env' s1 fun d s2 => goLc src tg c t vs env ka xs (ds ++ [d]) s2 else goLc src tg c t vs env ka xs ds s1) := rfl
theorem e_srcN : SrcOk [] st = True := rfl
theorem e_srcC {p : Nat × List D} {r : List (Nat × List D)} : SrcOk (p :: r) st = (st[p.1]? = some p.2 ∧ SrcOk r st) := rfl
theorem e_meth : dMeth fm t ta env st k = t env st fun d s1 => isLst s1 d = true ∧ ta env s1 fun ds s2 => fm d ds s2 k := rfl
theorem e_isL : isLst st (.lst ds) = true := rfl
theorem e_isO {xs : List D} (h : st[i]? = some xs) : isLst st (.obj i) = true := by simp [isLst, deref, h]
theorem e_app {xs : List D} (h : st[i]? = some xs) : mAppend (.obj i) [d] st k = (xs.length < 16777216 ∧ k .non (st.set i (xs ++ [d]))) := by simp [mAppend, h]
theorem e_pop {xs : List D} (h : st[i]? = some xs) : mPop (.obj i) [] st k = ∃ x, xs[xs.length - 1]? = some x ∧ k x (st.set i xs.dropLast) := by simp [mPop, h]
theorem e_rev {xs : List D} (h : st[i]? = some xs) : mReverse (.obj i) [] st k = k .non (st.set i xs.reverse) := by simp [mReverse, h]
theorem e_extL {xs : List D} (h : st[i]? = some xs) : mExtend (.obj i) [.lst ds] st k = (xs.length + ds.length ≤ 16777216 ∧ k .non (st.set i (xs ++ ds))) := by simp [mExtend, derefM, h]
theorem e_extO {xs ys : List D} (h : st[i]? = some xs) (h2 : st[j]? = some ys) : mExtend (.obj i) [.obj j] st k = (xs.length + ys.length ≤ 16777216 ∧ k .non (st.set i (xs ++ ys))) := by simp [mExtend, derefM, h, h2]
theorem e_sub {to ti : DE} : dgSub to ti d env st kg = to env st fun o s1 => ti env s1 fun i s2 => setD o i d s2 fun s3 => kg env s3 := rfl
theorem e_setO {xs : List D} {b : Int} {ks : Sto → Prop} (h : st[i]? = some xs) : setD (.obj i) (.int b) d st ks = ∃ m, ixN xs.length b = some m ∧ ks (st.set i (xs.set m d)) := by simp [setD, h]
def augK (t : DE) (f : F2) (i : Nat) (env : DL.Env) (nx : DL.Env → Sto → Prop) (d : D) : Sto → Prop := fun st => t env st fun e s1 => f d e s1 fun z s2 => dgName i z env s2 nx
theorem e_aug : dAug i t f E env st = match env[i]? with
    | some (some d) => augK t f i env E.nx d st
    | _ => False := rfl
theorem e_augK : augK t f i env kg d st = t env st fun e s1 => f d e s1 fun z s2 => dgName i z env s2 kg := rfl
theorem e_isi {ts : List String} : dIsi t ts env st k = t env st fun d s1 => k (.bl (ts.any (subTy (tyD d)))) s1 := rfl
theorem e_yes : dYes env st kt = kt true st := rfl
-- operators
theorem e_addI {a b : Int} : addD (.int a) (.int b) st k = k (.int (a + b)) st := rfl
theorem e_addB {a : Int} {b : Bool} : addD (.int a) (.bl b) st k = k (.int (a + b2i b)) st := rfl
theorem e_isub {a b : Int} : isubD (.int a) (.int b) st k = k (.int (a - b)) st := rfl
theorem e_addBI {a : Bool} {b : Int} : addD (.bl a) (.int b) st k = k (.int (b2i a + b)) st := rfl
theorem e_subBI {a : Bool} {b : Int} : subD (.bl a) (.int b) st k = k (.int (b2i a - b)) st := rfl
theorem e_subIB {a : Int} {b : Bool} : subD (.int a) (.bl b) st k = k (.int (a - b2i b)) st := rfl
theorem e_addS {a b : Str} : addD (.str a) (.str b) st k = (a.length + b.length ≤ 16777216 ∧ k (.str (a ++ b)) st) := rfl
theorem e_addT {a b : List D} : addD (.tup a) (.tup b) st k = (a.length + b.length ≤ 16777216 ∧ k (.tup (a ++ b)) st) := rfl
theorem e_addL {a b : List D} : addD (.lst a) (.lst b) st k = (a.length + b.length ≤ 16777216 ∧ k (.lst (a ++ b)) st) := rfl
theorem e_addOL {a b : List D} (h : st[i]? = some a) : addD (.obj i) (.lst b) st k = (a.length + b.length ≤ 16777216 ∧ k (.lst (a ++ b)) st) := by simp [addD, derefM, h]
theorem e_addLO {a b : List D} (h : st[i]? = some b) : addD (.lst a) (.obj i) st k = (a.length + b.length ≤ 16777216 ∧ k (.lst (a ++ b)) st) := by simp [addD, derefM, h]
theorem e_subI {a b : Int} : subD (.int a) (.int b) st k = k (.int (a - b)) st := rfl
theorem e_mulI {a b : Int} : mulD (.int a) (.int b) st k = (MulOk a b ∧ k (.int (a * b)) st) := rfl
theorem e_mulT {a : List D} {b : Int} : mulD (.tup a) (.int b) st k = (a ≠ [] ∧ 1 ≤ b ∧ b ≤ 1000 ∧ a.length ≤ 1000 ∧ k (.tup (List.replicate b.toNat a).flatten) st) := rfl
theorem e_mulL {a : List D} {b : Int} : mulD (.lst a) (.int b) st k = (-(2 ^ 63) ≤ b ∧ b < 2 ^ 63 ∧ a.length * b.toNat ≤ 16777216 ∧ k (.lst (List.replicate b.toNat a).flatten) st) := rfl
theorem e_divI {a b : Int} : divD (.int a) (.int b) st k = (DivOk b ∧ k (.int (a / b)) st) := rfl
theorem e_modI {a b : Int} : modD (.int a) (.int b) st k = (0 < b ∧ k (.int (a % b)) st) := rfl
theorem e_powI {a b : Int} : powD (.int a) (.int b) st k = (PowOk a b ∧ k (.int (a ^ b.toNat)) st) := rfl
theorem e_negI {a : Int} : negD (.int a) st k = k (.int (-a)) st := rfl
theorem e_iadd {a b : Int} : iaddD (.int a) (.int b) st k = k (.int (a + b)) st := rfl
theorem e_cmpI {p : Int → Int → Bool} {a b : Int} : cmpI p (.int a) (.int b) st k = k (.bl (p a b)) st := rfl
theorem e_eq : eqOp false d e st k = (okD 60 (deref st d) = true ∧ okD 60 (deref st e) = true ∧ k (.bl (eqD (deref st d) (deref st e))) st) := rfl
theorem e_ne : eqOp true d e st k = (okD 60 (deref st d) = true ∧ okD 60 (deref st e) = true ∧ k (.bl (!eqD (deref st d) (deref st e))) st) := rfl
theorem e_isn : isOp false d .non st k = k (.bl (isNon d)) st := rfl
theorem e_isb {a b neg : Bool} : isOp neg (.bl a) (.bl b) st k = k (.bl (if neg then !(a == b) else a == b)) st := rfl
theorem e_isnn : isOp true d .non st k = k (.bl (!isNon d)) st := rfl
theorem e_ixL {a : List D} {b : Int} : ixD (.lst a) (.int b) st k = ∃ x, atI a b = some x ∧ k x st := rfl
theorem e_ixKL {a : List D} {b : Int} : ixD (.klst a) (.int b) st k = ∃ x, atI a b = some x ∧ k x st := rfl
theorem e_ixT {a : List D} {b : Int} : ixD (.tup a) (.int b) st k = ∃ x, atI a b = some x ∧ k x st := rfl
theorem e_ixO {a : List D} {b : Int} (h : st[i]? = some a) : ixD (.obj i) (.int b) st k = ∃ x, atI a b = some x ∧ k x st := by simp [ixD, deref, h]
theorem e_cutL {a : List D} {lo hi : Option Int} : cutOp (.lst a) lo hi st k = k (.lst (cutD a lo hi)) st := rfl
theorem e_cutKL {a : List D} {lo hi : Option Int} : cutOp (.klst a) lo hi st k = k (.lst (cutD a lo hi)) st := rfl
theorem e_cutT {a : List D} {lo hi : Option Int} : cutOp (.tup a) lo hi st k = k (.tup (cutD a lo hi)) st := rfl
theorem e_cutO {a : List D} {lo hi : Option Int} (h : st[i]? = some a) : cutOp (.obj i) lo hi st k = k (.lst (cutD a lo hi)) st := by simp [cutOp, deref, h]
-- built-ins
theorem e_lenL : bLen [.lst ds] st k = k (.int ds.length) st := rfl
theorem e_lenKL : bLen [.klst ds] st k = k (.int ds.length) st := rfl
theorem e_lenT : bLen [.tup ds] st k = k (.int ds.length) st := rfl
theorem e_lenO {xs : List D} (h : st[i]? = some xs) : bLen [.obj i] st k = k (.int xs.length) st := by simp [bLen, deref, h]
theorem e_abs {a : Int} : bAbs [.int a] st k = k (.int (if a < 0 then -a else a)) st := rfl
theorem e_intI {a : Int} : bInt [.int a] st k = k (.int a) st := rfl
theorem e_intB {b : Bool} : bInt [.bl b] st k = k (.int (if b = true then 1 else 0)) st := rfl
theorem e_max2 {a b : Int} : bMax2 [.int a, .int b] st k = k (.int (if b > a then b else a)) st := rfl
theorem e_min2 {a b : Int} : bMin2 [.int a, .int b] st k = k (.int (if b < a then b else a)) st := rfl
theorem e_listL : bList [.lst ds] st k = k (.lst ds) st := rfl
theorem e_listT : bList [.tup ds] st k = k (.lst ds) st := rfl
theorem e_listNL : bListNew [.lst ds] st k = k (.obj st.length) (st ++ [ds]) := rfl
theorem e_listNT : bListNew [.tup ds] st k = k (.obj st.length) (st ++ [ds]) := rfl
theorem e_tupL : bTuple [.lst ds] st k = k (.tup ds) st := rfl
theorem e_tupT : bTuple [.tup ds] st k = k (.tup ds) st := rfl
theorem e_tupO {xs : List D} (h : st[i]? = some xs) : bTuple [.obj i] st k = k (.tup xs) st := by simp [bTuple, deref, h]
theorem e_all {bs : List Bool} (h : blsD ds = some bs) : bAll [.lst ds] st k = k (.bl (bs.all id)) st := by simp [bAll, deref, h]
theorem e_any {bs : List Bool} (h : blsD ds = some bs) : bAny [.lst ds] st k = k (.bl (bs.any id)) st := by simp [bAny, deref, h]
theorem e_sum {ns : List Int} (h : intsD ds = some ns) : bSumL [.lst ds] st k = k (.int ns.sum) st := by simp [bSumL, deref, h]
theorem e_sumI {ns : List Int} : bSumL [.lst (ns.map D.int)] st k = k (.int ns.sum) st := e_sum (intsD_map ns)
-- data compared
theorem e_drI {b : Int} : deref st (.int b) = .int b := rfl
theorem e_drB {b : Bool} : deref st (.bl b) = .bl b := rfl
theorem e_drS {b : Str} : deref st (.str b) = .str b := rfl
theorem e_drN : deref st .non = .non := rfl
theorem e_drL : deref st (.lst ds) = .lst ds := rfl
theorem e_drT : deref st (.tup ds) = .tup ds := rfl
theorem e_drO {xs : List D} (h : st[i]? = some xs) : deref st (.obj i) = .lst xs := by simp [deref, h]
theorem seq_by {E : DEnds} (h : ∀ nx, s2 E = nx → s1 ⟨nx, E.rt⟩ env st) : dSeq s1 s2 E env st := h _ rfl
theorem e_seq : dSeq s1 s2 E env st = s1 ⟨s2 E, E.rt⟩ env st := rfl
end
theorem okDs_int (n : Nat) : ∀ xs : List Int, okDs n (xs.map D.int) = true
  | [] => by simp only [List.map_nil, okDs]
  | x :: r => by simp only [List.map_cons, okDs, okD, Bool.true_and]; exact okDs_int n r
theorem okDs_str {n : Nat} : ∀ {xs : List Str}, (∀ x ∈ xs, PyData.strOk x = true) → okDs n (xs.map D.str) = true
  | [], _ => by simp only [List.map_nil, okDs]
  | x :: r, h => by
    simp only [List.map_cons, okDs, okD, Bool.and_eq_true]
    exact ⟨h x List.mem_cons_self, okDs_str fun y m => h y (List.mem_cons_of_mem _ m)⟩
mutual
theorem eqD_refl : ∀ (n : Nat) (d : D), okD n d = true → eqD d d = true
  | _, .non, _ => by simp [eqD]
  | _, .bl _, _ => by simp [eqD]
  | _, .int _, _ => by simp [eqD]
  | _, .str _, _ => by simp [eqD]
  | 0, .lst _, h => by simp [okD] at h
  | 0, .tup _, h => by simp [okD] at h
  | n + 1, .lst xs, h => by simp only [okD] at h; simp only [eqD]; exact eqDs_refl n xs h
  | n + 1, .tup xs, h => by simp only [okD] at h; simp only [eqD]; exact eqDs_refl n xs h
  | n, .klst _, h => by cases n <;> simp [okD] at h
  | n, .obj _, h => by cases n <;> simp [okD] at h
  | n, .dic _ _, h => by cases n <;> simp [okD] at h
  | n, .fdic _ _, h => by cases n <;> simp [okD] at h
  | n, .gtup _, h => by cases n <;> simp [okD] at h
theorem eqDs_refl : ∀ (n : Nat) (ds : List D), okDs n ds = true → eqDs ds ds = true
  | _, [], _ => by simp [eqDs]
  | n, x :: r, h => by
    simp only [okDs, Bool.and_eq_true] at h
    simp only [eqDs, Bool.and_eq_true]
    exact ⟨eqD_refl n x h.1, eqDs_refl n r h.2⟩
end
theorem eqDs_ints : ∀ xs ys : List Int, eqDs (xs.map D.int) (ys.map D.int) = decide (xs = ys)
  | [], [] => by simp [eqDs]
  | [], _ :: _ => by simp [eqDs]
  | _ :: _, [] => by simp [eqDs]
  | x :: r, y :: s => by
    simp only [List.map_cons, eqDs, eqD, eqDs_ints r s]
    by_cases h : x = y
    · subst h; simp
    · simp [h]
end DL

/-! tests by chains of any length -/
namespace DL
open PySem PySem.Spec PyProof.Rows L2
abbrev DCh := D → DL.Env → Sto → (Bool → Sto → Prop) → Prop
def cK (k : Bool → Sto → Prop) : DK := fun z s2 => match z with
  | .bl b => k b s2
  | _ => False
def cLast (f : F2) (t : DE) : DCh := fun x env st k => t env st fun y s1 => f x y s1 (cK k)
def cNext (c : DCh) (y : D) (env : DL.Env) (k : Bool → Sto → Prop) : Bool → Sto → Prop := fun b s2 => if b = true then c y env s2 k else k false s2
def cLink (f : F2) (t : DE) (c : DCh) : DCh := fun x env st k => t env st fun y s1 => f x y s1 (cK (cNext c y env k))
def dTestCh (t : DE) (c : DCh) : DT := fun env st k => t env st fun x s1 => c x env s1 k
def tDCh (K : PySem.W.Frag) (c : DCh) (x : V) (σ : L2.St) (H : Hp) (Q : Bool → Hp → Prop) : Prop := ∃ w env st kk d, Wld K w st H ∧ EnvR K w env σ ∧ Rep K w d x ∧ c d env st kk ∧ FolT K w kk Q
def PDCh (X : Cx) (ops : List CmpOp) (rs : List Expr) (c : DCh) : Prop := ∀ (pos : Pos) (pins : List (Addr × Obj)) (s : Shared) (σ : L2.St) (H : Hp) (x : V) (v : Value) (Q : Bool → Hp → Prop), Inv X pins σ H s → RelV x v → tDCh X.K c x σ H Q →
  wpAny (model X.prog X.w) X.A (testChain pos v ops (evalEach rs X.env)) (TP X pins σ Q) X.xe s
section
variable {X : Cx} {a b : Expr} {ta tb : DE}
theorem pch_last {op : CmpOp} {f : F2} (ho : OpR X (compareOp op) (rD X.K f)) (hb : PD X b tb) : PDCh X [op] [b] (cLast f tb) := by
  intro pos pins s σ H x v Q I r1 ⟨w, env, st, kk, d, W, E, R, h, fo⟩
  refine test_last (thn (hb.run pins s σ H (fun y H2 => rD X.K f x y H2 fun z H3 => ∃ k, z = .bl k ∧ Q k H3) I ⟨w, env, st, _, W, E, h, fun e st2 u w2 H2 h2 l2 W2 R2 => ?_⟩) fun u s2 ⟨y, H2, I2, r2, q2⟩ => thn (ho pins s2 σ H2 x y v u _ I2 r1 r2 q2) fun d' s3 ⟨z, H3, I3, r3, k, e, q3⟩ => ?_)
  · refine ⟨w2, st2, d, e, _, W2, Rep.mono l2 _ _ R, R2, h2, fun z st3 x3 w3 H3 h3 l3 W3 R3 => ?_⟩
    cases z with
    | bl k =>
      simp only [Rep] at R3
      exact ⟨k, R3, fo _ _ _ _ h3 (l2.trans l3) W3⟩
    | _ => exact h3.elim
  · subst e
    cases r3
    exact wpAny_truthy_bool ⟨H3, I3, q3⟩
theorem pch_link {op op' : CmpOp} {ops : List CmpOp} {b' : Expr} {rs : List Expr} {f : F2} {c : DCh} (ho : OpR X (compareOp op) (rD X.K f)) (hb : PD X b tb) (hc : PDCh X (op' :: ops) (b' :: rs) c) : PDCh X (op :: op' :: ops) (b :: b' :: rs) (cLink f tb c) := by
  intro pos pins s σ H x v Q I r1 ⟨w, env, st, kk, d, W, E, R, h, fo⟩
  refine test_link (thn (hb.run pins s σ H (fun y H2 => rD X.K f x y H2 fun z H3 => ∃ k, z = .bl k ∧ (if k = true then tDCh X.K c y σ H3 Q else Q false H3)) I ⟨w, env, st, _, W, E, h, fun e st2 u w2 H2 h2 l2 W2 R2 => ?_⟩) fun u s2 ⟨y, H2, I2, r2, q2⟩ => thn (ho pins s2 σ H2 x y v u _ I2 r1 r2 q2) fun d' s3 ⟨z, H3, I3, r3, k, e, q3⟩ => ?_)
  · refine ⟨w2, st2, d, e, _, W2, Rep.mono l2 _ _ R, R2, h2, fun z st3 x3 w3 H3 h3 l3 W3 R3 => ?_⟩
    cases z with
    | bl k =>
      simp only [Rep] at R3
      refine ⟨k, R3, ?_⟩
      cases k with
      | true =>
        rw [if_pos rfl]
        have h3' : c e env st3 kk := h3
        exact ⟨w3, env, st3, kk, e, W3, (E.mono l2).mono l3, Rep.mono l3 _ _ R2, h3', fo.le (l2.trans l3)⟩
      | false =>
        rw [if_neg (by decide)]
        exact fo _ _ _ _ h3 (l2.trans l3) W3
    | _ => exact h3.elim
  · subst e
    cases r3
    refine wpAny_truthy_bool ?_
    cases k with
    | false => exact ite_ff ⟨H3, I3, by simpa using q3⟩
    | true => exact ite_tt (hc pos pins s3 σ H3 y u Q I3 r2 (by simpa using q3))
theorem pd_tchainN {op op' : CmpOp} {ops : List CmpOp} {b' : Expr} {rs : List Expr} {c : DCh} {pos : Pos} (ha : PD X a ta) (hc : PDCh X (op :: op' :: ops) (b :: b' :: rs) c)
    (hm : lastMarks (op :: op' :: ops) (b :: b' :: rs) = false := by with_unfolding_all rfl) : PDT X (.Compare a (op :: op' :: ops) (b :: b' :: rs) pos) (dTestCh ta c) := by
  refine ⟨fun pins s σ H Q I h => ?_⟩
  obtain ⟨w, env, st, kk, W, E, h, fo⟩ := h
  refine isTrue_chain (thn (ha.run pins s σ H (fun x H1 => tDCh X.K c x σ H1 Q) I ⟨w, env, st, _, W, E, h, fun d st1 v w1 H1 h1 l1 W1 R1 => ⟨w1, env, st1, kk, d, W1, E.mono l1, R1, h1, fo.le l1⟩⟩) fun v s1 ⟨x, H1, I1, r1, q1⟩ => ?_) hm
  exact hc pos pins s1 σ H1 x v Q I1 r1 q1
end
section
variable {env : DL.Env} {st : Sto} {k : Bool → Sto → Prop} {f : F2} {t : DE} {c : DCh} {x : D} {b : Bool}
theorem e_cLast : cLast f t x env st k = t env st fun y s1 => f x y s1 (cK k) := rfl
theorem e_cLink : cLink f t c x env st k = t env st fun y s1 => f x y s1 (cK (cNext c y env k)) := rfl
theorem e_cK : cK k (.bl b) st = k b st := rfl
theorem e_cNext : cNext c x env k b st = if b = true then c x env st k else k false st := rfl
theorem e_testCh : dTestCh t c env st k = t env st fun x s1 => c x env s1 k := rfl
theorem q_okI {n : Nat} {i : Int} : okD n (.int i) = true := by cases n <;> rfl
theorem q_okB {n : Nat} {i : Bool} : okD n (.bl i) = true := by cases n <;> rfl
theorem q_okN {n : Nat} : okD n .non = true := by cases n <;> rfl
theorem q_okS {n : Nat} {s : Str} : okD n (.str s) = PyData.strOk s := by cases n <;> rfl
theorem q_okL {n : Nat} {ds : List D} : okD (n + 1) (.lst ds) = okDs n ds := by simp only [okD]
theorem q_okT {n : Nat} {ds : List D} : okD (n + 1) (.tup ds) = okDs n ds := by simp only [okD]
theorem q_oks0 {n : Nat} : okDs n [] = true := by simp only [okDs]
theorem q_oks1 {n : Nat} {d : D} {ds : List D} : okDs n (d :: ds) = (okD n d && okDs n ds) := by simp only [okDs]
theorem q_eqII {i j : Int} : eqD (.int i) (.int j) = (i == j) := by simp only [eqD]
theorem q_eqBB {i j : Bool} : eqD (.bl i) (.bl j) = (i == j) := by simp only [eqD]
theorem q_eqSS {i j : Str} : eqD (.str i) (.str j) = (i == j) := by simp only [eqD]
theorem q_eqLL {i j : List D} : eqD (.lst i) (.lst j) = eqDs i j := by simp only [eqD]
theorem q_eqTT {i j : List D} : eqD (.tup i) (.tup j) = eqDs i j := by simp only [eqD]
theorem q_eqNN : eqD .non .non = true := by simp only [eqD]
theorem q_eqNI {i : Int} : eqD .non (.int i) = false := by simp only [eqD]
theorem q_eqIN {i : Int} : eqD (.int i) .non = false := by simp only [eqD]
theorem q_eqs0 : eqDs [] [] = true := by simp only [eqDs]
theorem q_eqs1 {d e : D} {ds es : List D} : eqDs (d :: ds) (e :: es) = (eqD d e && eqDs ds es) := by simp only [eqDs]
end
end DL

/-! sum, max, min of a list or a tuple of ints -/
namespace DL
open PySem PySem.Spec PyProof.Rows L2
section
variable {prog : Program} {w : World} {A : Around} {E : Value → Shared → Prop} {s : Shared} {l : Addr} {its : List Value} {ns : List Int} {Q : Value → Shared → Prop}
theorem sumTup (hh : A.handled = none) (hl : s.heap.IsTuple l its.toArray) (hi : IntsAre its ns)
    (h : ∀ h' tk t', (∀ b o, s.heap.get? b = some o → h'.get? b = some o) → Q (.int ns.sum t') { s with heap := h', toks := tk }) : wpAny (model prog w) A (call (.builtin "sum") [.ref l]) Q E s := by
  obtain ⟨ys, e⟩ := hi.allInts.items
  have hn : numsOf (intItems ys).toList = ns := by
    rw [← e]
    exact hi.numsOf
  rw [nums_intItems] at hn
  rw [e] at hl
  refine PySem.W.ktm_sumG hh hl fun h' tk t' hk => ?_
  have hq := h h' tk t' hk
  rw [preSum_eq, List.take_of_length_le (by simp), hn]
  exact hq
theorem bestTup (hh : A.handled = none) {ys : Array (Int × Tok)} (hl : s.heap.IsTuple l (intItems ys)) {P : Value → Shared → Prop}
    (h : ∀ s₂ I, I = s.heap.objs.size → s₂.heap.IsTupleIter I l 0 → s₂.heap.IsTuple l (intItems ys) → (∀ b ∈ [I, l], b < s₂.heap.objs.size) → l ≠ I → (∀ b o, s.heap.get? b = some o → s₂.heap.get? b = some o) → s₂ = { s with heap := s₂.heap } → P (.ref I) s₂) :
    wpAny (model prog w) A (pyIter (.ref l)) P E s := by
  obtain ⟨o, ho, _⟩ := id hl
  refine wpAny_pyIter_tuple hl (h _ _ rfl ⟨_, Heap.get?_push_size _ rfl, rfl, rfl⟩ (hl.at fun o e => Heap.get?_push_of_some _ e) (fun b hb => ?_) (Nat.ne_of_lt (Heap.lt_size ho)) (fun b o e => Heap.get?_push_of_some _ e) rfl)
  have hb' : b = s.heap.objs.size ∨ b = l := by simpa using hb
  rcases hb' with rfl | rfl
  · exact Heap.lt_size (Heap.get?_push_size _ rfl)
  · exact Heap.lt_size (Heap.get?_push_of_some _ ho)
theorem maxTup (hh : A.handled = none) (hl : s.heap.IsTuple l its.toArray) (hi : IntsAre its ns) (hne : 0 < ns.length)
    (h : ∀ h' tk M t', (∀ b o, s.heap.get? b = some o → h'.get? b = some o) → M ∈ ns → (∀ a, a ∈ ns → a ≤ M) → Q (.int M t') { s with heap := h', toks := tk }) : wpAny (model prog w) A (call (.builtin "max") [.ref l]) Q E s := by
  obtain ⟨ys, e⟩ := hi.allInts.items
  have hn : numsOf (intItems ys).toList = ns := by
    rw [← e]
    exact hi.numsOf
  rw [nums_intItems] at hn
  subst hn
  rw [e] at hl
  have hsz : 0 < ys.size := by simpa using hne
  refine call_max_walk (bestTup (A := A.in1) (show A.in1.handled = none from hh) hl fun s₂ I eI st ht hfp hlI old es => ?_)
  refine ⟨_, _, _, _, _, _, _, rfl, Walks.tuple (A := A.in1) hh I l hlI (intItems ys), ⟨st, ht⟩, hfp, by simpa [intItems] using hsz, CmpOf.ints_gt (numAt ys) (fun _ _ => intItems_at), fun v h' tk hP hk => ?_⟩
  obtain ⟨t, rfl⟩ := intItems_at (by simpa [intItems] using hP)
  obtain ⟨h1, h2⟩ := argBest_gt (numAt ys) (ys.size - 1)
  rw [es]
  have hsz2 : (intItems ys).size = ys.size := by simp [intItems]
  rw [hsz2] at *
  refine h h' tk _ t (fun b o q => hk b o (fun z => ?_) (old b o q)) ?_ fun a ha => ?_
  · have hlt := Heap.lt_size q
    have z' : b = I := by simpa using z
    rw [z', eI] at hlt
    exact absurd hlt (Nat.lt_irrefl _)
  · rw [numAt_eq]
    exact PySem.getD_mem (by rw [List.length_map, Array.length_toList]; exact Nat.lt_of_le_of_lt h1 (by omega))
  · obtain ⟨j, hj, rfl⟩ := mem_getD ha
    rw [List.length_map, Array.length_toList] at hj
    rw [← numAt_eq]
    exact h2 j (by omega)
theorem minTup (hh : A.handled = none) (hl : s.heap.IsTuple l its.toArray) (hi : IntsAre its ns) (hne : 0 < ns.length)
    (h : ∀ h' tk M t', (∀ b o, s.heap.get? b = some o → h'.get? b = some o) → M ∈ ns → (∀ a, a ∈ ns → M ≤ a) → Q (.int M t') { s with heap := h', toks := tk }) : wpAny (model prog w) A (call (.builtin "min") [.ref l]) Q E s := by
  obtain ⟨ys, e⟩ := hi.allInts.items
  have hn : numsOf (intItems ys).toList = ns := by
    rw [← e]
    exact hi.numsOf
  rw [nums_intItems] at hn
  subst hn
  rw [e] at hl
  have hsz : 0 < ys.size := by simpa using hne
  refine call_min_walk (bestTup (A := A.in1) (show A.in1.handled = none from hh) hl fun s₂ I eI st ht hfp hlI old es => ?_)
  refine ⟨_, _, _, _, _, _, _, rfl, Walks.tuple (A := A.in1) hh I l hlI (intItems ys), ⟨st, ht⟩, hfp, by simpa [intItems] using hsz, CmpOf.ints_lt (numAt ys) (fun _ _ => intItems_at), fun v h' tk hP hk => ?_⟩
  obtain ⟨t, rfl⟩ := intItems_at (by simpa [intItems] using hP)
  obtain ⟨h1, h2⟩ := argBest_lt (numAt ys) (ys.size - 1)
  rw [es]
  have hsz2 : (intItems ys).size = ys.size := by simp [intItems]
  rw [hsz2] at *
  refine h h' tk _ t (fun b o q => hk b o (fun z => ?_) (old b o q)) ?_ fun a ha => ?_
  · have hlt := Heap.lt_size q
    have z' : b = I := by simpa using z
    rw [z', eI] at hlt
    exact absurd hlt (Nat.lt_irrefl _)
  · rw [numAt_eq]
    exact PySem.getD_mem (by rw [List.length_map, Array.length_toList]; exact Nat.lt_of_le_of_lt h1 (by omega))
  · obtain ⟨j, hj, rfl⟩ := mem_getD ha
    rw [List.length_map, Array.length_toList] at hj
    rw [← numAt_eq]
    exact h2 j (by omega)
end
section
variable {X : Cx}
def rSumT (K : PySem.W.Frag) : List V → Hp → VK → Prop := fun vs H Q => ∃ (a : Addr) (ns : List Int), vs = [V.ref a] ∧ SqT K H a (ns.map V.int) ∧ Q (.int ns.sum) H
def rMaxT (K : PySem.W.Frag) : List V → Hp → VK → Prop := fun vs H Q => ∃ (a : Addr) (ns : List Int), vs = [V.ref a] ∧ SqT K H a (ns.map V.int) ∧ 0 < ns.length ∧ ∀ m, m ∈ ns → (∀ y, y ∈ ns → y ≤ m) → Q (.int m) H
def rMinT (K : PySem.W.Frag) : List V → Hp → VK → Prop := fun vs H Q => ∃ (a : Addr) (ns : List Int), vs = [V.ref a] ∧ SqT K H a (ns.map V.int) ∧ 0 < ns.length ∧ ∀ m, m ∈ ns → (∀ y, y ∈ ns → m ≤ y) → Q (.int m) H
theorem crSumT (hc : X.calm = true) : CallR X (.builtin "sum") (rSumT X.K) := by
  intro pins s σ H vs us Q I r h
  obtain ⟨a, ns, rfl, hs, q⟩ := h
  obtain ⟨its, rv, hl, _⟩ := I.tuple hs
  rw [Vals.ref1 r]
  exact sumTup (I.ok.hd hc) hl rv.ints fun h' tk t' hk => ⟨.int _, H, I.kept hk, ⟨_, rfl⟩, q⟩
theorem crMaxT (hc : X.calm = true) : CallR X (.builtin "max") (rMaxT X.K) := by
  intro pins s σ H vs us Q I r h
  obtain ⟨a, ns, rfl, hs, hne, q⟩ := h
  obtain ⟨its, rv, hl, _⟩ := I.tuple hs
  rw [Vals.ref1 r]
  exact maxTup (I.ok.hd hc) hl rv.ints hne fun h' tk m t' hk h1 h2 => ⟨.int _, H, I.kept hk, ⟨_, rfl⟩, q m h1 h2⟩
theorem crMinT (hc : X.calm = true) : CallR X (.builtin "min") (rMinT X.K) := by
  intro pins s σ H vs us Q I r h
  obtain ⟨a, ns, rfl, hs, hne, q⟩ := h
  obtain ⟨its, rv, hl, _⟩ := I.tuple hs
  rw [Vals.ref1 r]
  exact minTup (I.ok.hd hc) hl rv.ints hne fun h' tk m t' hk h1 h2 => ⟨.int _, H, I.kept hk, ⟨_, rfl⟩, q m h1 h2⟩
/-- of a list, a tuple of ints -/
def intsOf (st : Sto) (d : D) : Option (List Int) := match deref st d with
  | .lst xs => intsD xs
  | .tup xs => intsD xs
  | _ => none
def bSum1 : FB := fun ds st k => match ds with
  | [d] => match intsOf st d with
    | some ns => k (.int ns.sum) st
    | none => False
  | _ => False
def bMax1 : FB := fun ds st k => match ds with
  | [d] => match intsOf st d with
    | some ns => 0 < ns.length ∧ ∀ m, m ∈ ns → (∀ y, y ∈ ns → y ≤ m) → k (.int m) st
    | none => False
  | _ => False
def bMin1 : FB := fun ds st k => match ds with
  | [d] => match intsOf st d with
    | some ns => 0 < ns.length ∧ ∀ m, m ∈ ns → (∀ y, y ∈ ns → m ≤ y) → k (.int m) st
    | none => False
  | _ => False
theorem intsOf_rep {K : PySem.W.Frag} {w : Wd} {st : Sto} {H : Hp} {d : D} {v : V} {ns : List Int} (W : Wld K w st H) (R : Rep K w d v) (h : intsOf st d = some ns) :
    ∃ a, v = .ref a ∧ (SqL K H a (ns.map V.int) ∨ SqT K H a (ns.map V.int)) := by
  unfold intsOf at h
  split at h
  · rename_i xs hd
    obtain ⟨a, us, rfl, q1, r1, _⟩ := rep_lst W R hd
    rw [intsD_eq h] at r1
    exact ⟨a, rfl, .inl (by rw [← r1.ints]; exact q1)⟩
  · rename_i xs hd
    obtain ⟨a, us, rfl, q1, r1, _⟩ := rep_tup W R hd
    rw [intsD_eq h] at r1
    exact ⟨a, rfl, .inr (by rw [← r1.ints]; exact q1)⟩
  · cases h
theorem cb_sum1 (hc : X.calm = true) : CallR X (.builtin "sum") (rDB X.K bSum1) := by
  refine CallR.by_ fun vs H Q w st ds kk W R q fo => ?_
  unfold bSum1 at q
  split at q
  · obtain ⟨v, rfl, R1⟩ := one_rep R
    split at q
    · rename_i ns hb
      obtain ⟨a, rfl, q1 | q1⟩ := intsOf_rep W R1 hb
      · exact ⟨_, cr_sum hc, a, ns, rfl, q1, fo.id q W rep_int⟩
      · exact ⟨_, crSumT hc, a, ns, rfl, q1, fo.id q W rep_int⟩
    · exact q.elim
  · exact q.elim
theorem cb_max1 (hc : X.calm = true) : CallR X (.builtin "max") (rDB X.K bMax1) := by
  refine CallR.by_ fun vs H Q w st ds kk W R q fo => ?_
  unfold bMax1 at q
  split at q
  · obtain ⟨v, rfl, R1⟩ := one_rep R
    split at q
    · rename_i ns hb
      obtain ⟨a, rfl, q1 | q1⟩ := intsOf_rep W R1 hb
      · exact ⟨_, cr_max hc, a, ns, rfl, q1, q.1, fun m h1 h2 => fo.id (q.2 m h1 h2) W rep_int⟩
      · exact ⟨_, crMaxT hc, a, ns, rfl, q1, q.1, fun m h1 h2 => fo.id (q.2 m h1 h2) W rep_int⟩
    · exact q.elim
  · exact q.elim
theorem cb_min1 (hc : X.calm = true) : CallR X (.builtin "min") (rDB X.K bMin1) := by
  refine CallR.by_ fun vs H Q w st ds kk W R q fo => ?_
  unfold bMin1 at q
  split at q
  · obtain ⟨v, rfl, R1⟩ := one_rep R
    split at q
    · rename_i ns hb
      obtain ⟨a, rfl, q1 | q1⟩ := intsOf_rep W R1 hb
      · exact ⟨_, cr_min hc, a, ns, rfl, q1, q.1, fun m h1 h2 => fo.id (q.2 m h1 h2) W rep_int⟩
      · exact ⟨_, crMinT hc, a, ns, rfl, q1, q.1, fun m h1 h2 => fo.id (q.2 m h1 h2) W rep_int⟩
    · exact q.elim
  · exact q.elim
variable {st : Sto} {k : DK} {ns : List Int}
theorem intsOf_T : intsOf st (.tup (ns.map D.int)) = some ns := intsD_map ns
theorem intsOf_L : intsOf st (.lst (ns.map D.int)) = some ns := intsD_map ns
theorem e_sum1T : bSum1 [.tup (ns.map D.int)] st k = k (.int ns.sum) st := by simp only [bSum1, intsOf_T]
theorem e_sum1L : bSum1 [.lst (ns.map D.int)] st k = k (.int ns.sum) st := by simp only [bSum1, intsOf_L]
theorem e_max1T : bMax1 [.tup (ns.map D.int)] st k = (0 < ns.length ∧ ∀ m, m ∈ ns → (∀ y, y ∈ ns → y ≤ m) → k (.int m) st) := by simp only [bMax1, intsOf_T]
theorem e_max1L : bMax1 [.lst (ns.map D.int)] st k = (0 < ns.length ∧ ∀ m, m ∈ ns → (∀ y, y ∈ ns → y ≤ m) → k (.int m) st) := by simp only [bMax1, intsOf_L]
end
section
variable {X : Cx} {tg e e2 e3 : Expr} {ta tb tc : DE} {p pos : Pos}
def rng3K (kk : DIk) (d e : D) : DK := fun f s3 => match d, e, f with
  | .int i, .int j, .int c => ∃ n, RgC i j c n ∧ kk (stepD i c n) [] s3
  | _, _, _ => False
def dRng3 (t u v : DE) : DI := fun env st kk => t env st fun d s1 => u env s1 fun e s2 => v env s2 (rng3K kk d e)
theorem pdi_range3 (hm : X.mg "range" = none) (ha : PD X e ta) (hb : PD X e2 tb) (hc : PD X e3 tc) (hg : Gl X "range" := by rfl) (hs : starEach [e, e2, e3] X.env = (false, eval e X.env) :: starEach [e2, e3] X.env := by rfl) (hpl : (backTo pos (starEach [e2, e3] X.env)).any (·.1) = false := by rfl)
    (hs2 : starEach [e2, e3] X.env = (false, eval e2 X.env) :: starEach [e3] X.env := by rfl) (hs3 : starEach [e3] X.env = [(false, eval e3 X.env)] := by rfl) : PDI X tg (.Call (.Name "range" p) [e, e2, e3] [] pos) (dRng3 ta tb tc) := by
  refine (pi_range3 hg hm (pa_cons ha (pa_cons hb (pa_cons hc pa_nil hs3) hs2) hs) hs hpl).wk fun σ H R ⟨w, env, st, kk, W, E, h, fo⟩ => ?_
  refine ⟨w, env, st, _, W, E, h, fun d st1 v w1 H1 h1 l1 W1 R1 => ⟨w1, env, st1, _, W1, E.mono l1, h1, fun e' st2 u w2 H2 h2 l2 W2 R2 => ⟨w2, env, st2, _, W2, (E.mono l1).mono l2, h2, fun f' st3 x w3 H3 h3 l3 W3 R3 => ?_⟩⟩⟩
  unfold rng3K at h3
  split at h3
  · simp only [Rep] at R1 R2 R3
    subst R1 R2 R3
    obtain ⟨n, hn, h3⟩ := h3
    exact ⟨_, _, _, n, rfl, hn, fo _ _ _ _ _ _ h3 ((l1.trans l2).trans l3) W3 wk_step⟩
  · exact h3.elim
variable {env : DL.Env} {st : Sto} {kk : DIk} {i j c : Int}
theorem e_rng3 : dRng3 ta tb tc env st kk = ta env st fun d s1 => tb env s1 fun e s2 => tc env s2 (rng3K kk d e) := rfl
theorem e_rng3K : rng3K kk (.int i) (.int j) (.int c) st = ∃ n, RgC i j c n ∧ kk (stepD i c n) [] st := rfl
end
end DL

/-! bit_length; reversed -/
namespace DL
open PySem PySem.Spec PyProof.Rows L2
section
variable {X : Cx} {o : Expr} {to : DE}
theorem mt_bits : MtR X "int.bit_length" (fun x xs H Q => ∃ i, x = .int i ∧ xs = [] ∧ Q (.int ((Builtin.Int.intBits i : Nat) : Int)) H) := by
  rintro pins s σ H x xs v us Q I rx rs ⟨i, rfl, rfl, q⟩
  obtain ⟨t, rfl⟩ := rx
  cases rs
  refine call_gives F.slot_int_bit_length (typeIs_int s i t) F.entry_int_bit_length (F.args_int_bit_length_1 _) (AutoIntG2.int_bit_length_int_0 i t) ?_
  exact ⟨.int _, H, I.kept fun _ _ h => h, ⟨_, rfl⟩, q⟩
def bitsK (k : DK) : DK := fun d s1 => match d with
  | .int i => k (.int ((Builtin.Int.intBits i : Nat) : Int)) s1
  | _ => False
def dBits (to : DE) : DE := fun env st k => to env st (bitsK k)
theorem pd_bits {apos cpos : Pos} (ho : PD X o to) (hbase : attributeBase o "bit_length" X.env (eval o X.env) = eval o X.env := by rfl) (hline : (apos.endLine == cpos.line) = true := by rfl) : PD X (.Call (.Attribute o "bit_length" apos) [] [] cpos) (dBits to) := by
  refine (pe_bm0 PySem.F.plainAttrs_int F.slot_int_bit_length F.type_int_bit_length mt_bits ho hbase hline).wk fun σ H Q ⟨w, env, st, kk, W, E, h, fo⟩ => ?_
  refine ⟨w, env, st, _, W, E, h, fun d st1 v w1 H1 h1 l1 W1 R1 => ?_⟩
  unfold bitsK at h1
  split at h1
  · simp only [Rep] at R1
    subst R1
    exact ⟨rfl, _, rfl, rfl, fo _ _ _ _ _ h1 l1 W1 rep_int⟩
  · exact h1.elim
variable {env : DL.Env} {st : Sto} {k : DK} {i : Int}
theorem e_bits : dBits to env st k = to env st (bitsK k) := rfl
theorem e_bitsK : bitsK k (.int i) st = k (.int ((Builtin.Int.intBits i : Nat) : Int)) st := rfl
end
def par3K (i j l : Nat) (env : DL.Env) (nx : DL.Env → Sto → Prop) : List D → Sto → Prop := fun ds s1 => match ds with
  | [d, e, f] => dgName i d env s1 fun env1 s2 => dgName j e env1 s2 fun env2 s3 => dgName l f env2 s3 nx
  | _ => False
def dPar3 (i j l : Nat) (t : DA) : DS := fun E env st => t env st (par3K i j l env E.nx)
section
variable {X : Cx} {a b c : Expr} {pos : Pos}
theorem pds_par3 (i j l : Nat) {x y z : Str} {t : DA} {px py pz pt : Pos} {kt k2 pt2} (hc : X.calm = true) (hN : X.N.Nodup) (ha : PDA X [a, b, c] t) (hi : X.N[i]? = some x := by rfl) (hj : X.N[j]? = some y := by rfl) (hl : X.N[l]? = some z := by rfl) (hij : i ≠ j := by decide) (hil : i ≠ l := by decide) (hjl : j ≠ l := by decide)
    (hx : X.env.scope.names.lookup x = some .local := by rfl) (hy : X.env.scope.names.lookup y = some .local := by rfl) (hz : X.env.scope.names.lookup z = some .local := by rfl)
    (hw : swappedStores [.Tuple [.Name x px, .Name y py, .Name z pz] kt pt] (.Tuple [a, b, c] k2 pt2) X.env = pure (some [x, y, z]) := by rfl)
    (hs : swapsWithSole [.Tuple [.Name x px, .Name y py, .Name z pz] kt pt] (.Tuple [a, b, c] k2 pt2) pos.line X.env = pure false := by rfl) :
    PDS X (.Assign [.Tuple [.Name x px, .Name y py, .Name z pz] kt pt] (.Tuple [a, b, c] k2 pt2) pos) (dPar3 i j l t) := by
  refine (ps_par3 hc hN hi hj hl hij hil hjl hx hy hz ha hw hs).wk fun Ed σ H ⟨w, env, st, D, W, E, h, fn, fr⟩ => ?_
  refine ⟨w, env, st, _, W, E, h, fun ds st1 vs w1 H1 h1 l1 W1 R1 => ?_⟩
  match ds, h1, R1 with
  | [d, e, f], h1, R1 =>
    obtain ⟨v, r, rfl, Rv, R2⟩ := R1.inv
    obtain ⟨u, r', rfl, Ru, R3⟩ := R2.inv
    obtain ⟨q, r'', rfl, Rq, R4⟩ := R3.inv
    rw [R4.inv0]
    exact ⟨v, u, q, rfl, fn _ _ _ _ _ h1 l1 W1 ((((E.mono l1).set i Rv).set j Ru).set l Rq)⟩
  | [], h1, _ => exact h1.elim
  | [_], h1, _ => exact h1.elim
  | [_, _], h1, _ => exact h1.elim
  | _ :: _ :: _ :: _ :: _, h1, _ => exact h1.elim
variable {i j l : Nat} {t : DA} {E : DEnds} {env : DL.Env} {st : Sto} {d e f : D} {kg : DL.Env → Sto → Prop}
theorem e_par3 : dPar3 i j l t E env st = t env st (par3K i j l env E.nx) := rfl
theorem e_par3K : par3K i j l env kg [d, e, f] st = dgName i d env st fun env1 s2 => dgName j e env1 s2 fun env2 s3 => dgName l f env2 s3 kg := rfl
end
end DL

/-! zip(.., strict=True) of a list and a tuple of one length -/
namespace DL
open PySem PySem.Spec PyProof.Rows L2
/-- a strict zip, as it stands -/
abbrev IsZs (h : Heap) (zz TI TO : Addr) (own : Value) : Prop :=
  h.get? zz = some { cls := .type "zip", dict := none, data := .fields #[own, .bool false, .bool true, .ref TI, .ref TO], slots := #[] }
section
variable {pr : Program} {w : World} {A : Around} {E : Value → Shared → Prop} {z : Shared} {zz TI TO j1 j2 : Addr} {f1 f2 : List Addr} {m1 m2 i : Nat} {P1 P2 : Nat → Value → Prop} {S1 S2 : Nat → Heap → Prop} {c1 c2 : Value}
theorem noe_item {it : Addr} {fp : List Addr} {n : Nat} {P : Nat → Value → Prop} {St : Nat → Heap → Prop} {Q : Option Value → Shared → Prop} (Dr : Draws pr w A it fp n P St) (hlt : i < n) (st : St i z.heap)
    (hQ : ∀ x h' tk, P i x → St (i + 1) h' → Heap.SameBut it z.heap h' → Q (some x) { z with heap := h', toks := tk }) : wpAny (model pr w) A (Builtin.SmallTypes.nextOrEnd (.ref it)) Q E z := by
  unfold Builtin.SmallTypes.nextOrEnd
  exact wpAny_bind (wpAny_attempt (Dr.item i z _ _ hlt st fun x h' tk a b c => wpAny_pure (hQ x h' tk a b c)))
theorem noe_end {it : Addr} {fp : List Addr} {n : Nat} {P : Nat → Value → Prop} {St : Nat → Heap → Prop} {Q : Option Value → Shared → Prop} (Dr : Draws pr w A it fp n P St) (st : St n z.heap)
    (hQ : ∀ h', Heap.ExtBut it z.heap h' → Q none { z with heap := h' }) : wpAny (model pr w) A (Builtin.SmallTypes.nextOrEnd (.ref it)) Q E z := by
  unfold Builtin.SmallTypes.nextOrEnd
  refine wpAny_bind (wpAny_attempt (Dr.done z _ _ st fun h' e hb he => ?_))
  obtain ⟨o, ho, hc⟩ := he
  refine wpAny_bind (wpAny_isInstance (T := "StopIteration") (b := true) ⟨o, ho, hc⟩ isSubtype_stop ?_)
  exact wpAny_pure (hQ _ hb)
theorem zsNext {Q : Value → Shared → Prop} (S : ZipSep2 zz TI TO j1 j2 f1 f2) (D1 : Draws pr w A j1 f1 m1 P1 S1) (D2 : Draws pr w A j2 f2 m2 P2 S2)
    (hz : IsZs z.heap zz TI TO .none) (hI : IsTupOf2 z.heap TI (.ref j1) (.ref j2)) (hO : IsTupOf2 z.heap TO c1 c2) (s1 : S1 i z.heap) (s2 : S2 i z.heap) (l1 : i < m1) (l2 : i < m2)
    (hQ : ∀ u1 u2 h' tk, P1 i u1 → P2 i u2 → IsZs h' zz TI TO (rawInt z.heap.objs.size) → IsTupOf2 h' TO u1 u2 → S1 (i + 1) h' → S2 (i + 1) h' → IsTupOf2 h' z.heap.objs.size u1 u2 → h'.objs.size = z.heap.objs.size + 1 →
      (∀ b o, b ≠ zz → b ≠ TO → b ≠ j1 → b ≠ j2 → z.heap.get? b = some o → h'.get? b = some o) → Q (.ref z.heap.objs.size) { z with heap := h', toks := tk }) :
    wpAny (model pr w) A (Builtin.«zip.__next__» ⟨[.ref zz], []⟩) (fun fin s' => ∃ v, fin = .done (.ret v) ∧ Q v s') E z := by
  obtain ⟨hp, gs, dr, tk0, os⟩ := z
  show wpAny _ _ (field (.ref zz) 2 >>= _) _ _ _
  refine wpAny_bind (wpAny_field hz rfl (x := .bool true) rfl ?_)
  show wpAny _ _ (field (.ref zz) 3 >>= _) _ _ _
  refine wpAny_bind (wpAny_field hz rfl (x := .ref TI) rfl ?_)
  refine wpAny_bind (wpAny_seqItems hI rfl ?_)
  show wpAny _ _ (Builtin.SmallTypes.ownedTupleIsFree (.ref zz) >>= _) _ _ _
  refine wpAny_bind ?_
  unfold Builtin.SmallTypes.ownedTupleIsFree
  refine wpAny_bind (wpAny_field hz rfl (x := .none) rfl (wpAny_pure ?_))
  simp only [if_true]
  refine wpAny_bind (wpAny_rule ?_)
  refine wpAny_bind (wpAny_field hz rfl (x := .ref TO) rfl ?_)
  refine wpAny_bind (wpAny_setField_rec hz (by simp) fun g0 z0 b0 => ?_)
  replace z0 : IsZs g0 zz TI TO .ellipsis := z0
  replace b0 : Heap.SameBut zz hp g0 := b0
  refine wpAny_bind ?_
  simp only [List.zipIdx_cons, List.zipIdx_nil, List.forIn_cons, List.forIn_nil]
  refine wpAny_bind (wpAny_bind (wpAny_onRaise ?_))
  show wpAny _ _ (Builtin.SmallTypes.nextOrEnd (.ref j1)) _ _ ⟨g0, gs, dr, tk0, os⟩
  refine noe_item D1 l1 (D1.over s1 b0 S.zf1) fun u1 p1 tk1 hx1 sn1 hp1 => ?_
  replace hp1 : Heap.SameBut j1 g0 p1 := hp1
  have U1 : IsTupOf2 p1 TO c1 c2 := hp1.extBut _ _ S.Ti1 (b0.extBut _ _ S.TOz hO)
  refine wpAny_bind (wpAny_seqItems (s := ⟨p1, gs, dr, tk1, os⟩) U1 rfl ?_)
  refine wpAny_bind (updateSeq_IsTupOf2 (s := ⟨p1, gs, dr, tk1, os⟩) U1 fun g1 T1 b1 => ?_)
  replace T1 : IsTupOf2 g1 TO u1 c2 := T1
  replace b1 : Heap.SameBut TO p1 g1 := b1
  refine wpAny_bind (wpAny_letGo (wpAny_pure ?_))
  refine wpAny_bind (wpAny_bind (wpAny_onRaise ?_))
  show wpAny _ _ (Builtin.SmallTypes.nextOrEnd (.ref j2)) _ _ ⟨g1, gs, dr, tk1, os⟩
  refine noe_item D2 l2 (D2.over (D2.over (D2.over s2 b0 S.zf2) hp1 S.sep1_2) b1 S.Tf2) fun u2 p2 tk2 hx2 sn2 hp2 => ?_
  replace hp2 : Heap.SameBut j2 g1 p2 := hp2
  have U2 : IsTupOf2 p2 TO u1 c2 := hp2.extBut _ _ S.Ti2 T1
  refine wpAny_bind (wpAny_seqItems (s := ⟨p2, gs, dr, tk2, os⟩) U2 rfl ?_)
  refine wpAny_bind (updateSeq_IsTupOf2 (s := ⟨p2, gs, dr, tk2, os⟩) U2 fun g2 T2 b2 => ?_)
  replace T2 : IsTupOf2 g2 TO u1 u2 := T2
  replace b2 : Heap.SameBut TO p2 g2 := b2
  refine wpAny_bind (wpAny_letGo (wpAny_pure (wpAny_pure ?_)))
  refine wpAny_bind (wpAny_seqItems (s := ⟨g2, gs, dr, tk2, os⟩) T2 rfl ?_)
  refine wpAny_bind (wpAny_newTuple ?_)
  have hsz : g2.objs.size = hp.objs.size := by rw [b2.1, hp2.1, b1.1, hp1.1, b0.1]
  have hzz : IsZs g2 zz TI TO .ellipsis := (b2.extBut _ _ S.TOz.symm (hp2.extBut _ _ S.zi2 (b1.extBut _ _ S.TOz.symm (hp1.extBut _ _ S.zi1 z0))))
  have hkk : ∀ b o, b ≠ zz → b ≠ TO → b ≠ j1 → b ≠ j2 → hp.get? b = some o → g2.get? b = some o := fun b o bz bT e1 e2 e =>
    (b2.extBut _ _ bT (hp2.extBut _ _ e2 (b1.extBut _ _ bT (hp1.extBut _ _ e1 (b0.extBut _ _ bz e)))))
  have n1 : S1 (i + 1) g2 := (D1.over (D1.over (D1.over sn1 b1 S.Tf1) hp2 S.sep2_1) b2 S.Tf1)
  have n2 : S2 (i + 1) g2 := (D2.over sn2 b2 S.Tf2)
  have zlt : zz < g2.objs.size := Heap.lt_size hzz
  show wpAny _ _ (Builtin.SmallTypes.ownedTupleHandOut (.ref zz) (.ref g2.objs.size) >>= _) _ _ ⟨g2.push { cls := .type "tuple", data := .seq #[u1, u2] }, gs, dr, tk2, os⟩
  refine wpAny_bind ?_
  unfold Builtin.SmallTypes.ownedTupleHandOut
  have z6 : IsZs (g2.push { cls := .type "tuple", data := .seq #[u1, u2] }) zz TI TO .ellipsis := Heap.get?_push_of_some _ hzz
  refine wpAny_bind (wpAny_setField_rec z6 (by simp) fun h7 z7 b7 => ?_)
  replace z7 : IsZs h7 zz TI TO (rawInt g2.objs.size) := z7
  refine wpAny_setField_rec z7 (by simp) fun h8 z8 b8 => ?_
  replace z8 : IsZs h8 zz TI TO (rawInt g2.objs.size) := z8
  replace b7 : Heap.SameBut zz (g2.push { cls := .type "tuple", data := .seq #[u1, u2] }) h7 := b7
  replace b8 : Heap.SameBut zz h7 h8 := b8
  have up : ∀ b o, b ≠ zz → g2.get? b = some o → h8.get? b = some o := fun b o e1 e => b8.extBut _ _ e1 (b7.extBut _ _ e1 (Heap.get?_push_of_some _ e))
  have T8 : IsTupOf2 h8 g2.objs.size u1 u2 := b8.extBut _ _ (Nat.ne_of_gt zlt) (b7.extBut _ _ (Nat.ne_of_gt zlt) (Heap.get?_push_size _ rfl))
  have k8 : h8.objs.size = g2.objs.size + 1 := by rw [b8.1, b7.1, Heap.size_push]
  rw [hsz] at z8 T8 k8
  refine wpAny_pure ⟨_, rfl, ?_⟩
  show Q (.ref g2.objs.size) ⟨h8, gs, dr, tk2, os⟩
  rw [hsz]
  exact hQ u1 u2 h8 tk2 hx1 hx2 z8 (up _ _ S.TOz T2) (D1.frame _ _ _ n1 fun b hb o e => up b o (fun q => S.zf1 (q ▸ hb)) e) (D2.frame _ _ _ n2 fun b hb o e => up b o (fun q => S.zf2 (q ▸ hb)) e) T8 k8 fun b o bz bT e1 e2 e => up b o bz (hkk b o bz bT e1 e2 e)
theorem stopRaised {α : Type} {Q : α → Shared → Prop} (hh : A.handled = none) (hE : ∀ h' e, (∀ b o, z.heap.get? b = some o → h'.get? b = some o) → (∃ o, h'.get? e = some o ∧ o.cls = .type "StopIteration") → E (.ref e) { z with heap := h' }) :
    wpAny (model pr w) A (Builtin.SmallTypes.stopIteration : Sem α) Q E z := by
  show wpAny _ _ (newExc (.type "StopIteration") [] >>= _) _ _ z
  refine wpAny_bind ?_
  simp only [newExc, newTuple]
  refine wpAny_bind (wpAny_newObj_type ?_ (by size_fits))
  refine wpAny_bind (m := firstArgMember _ _) (wpAny_of_eq (a := Value.none) (by first | rfl | (simp only [firstArgMember]; rfl)) ?_)
  refine wpAny_newObj_type ?_ (by size_fits)
  simp only [raiseNew]
  refine wpAny_bind (wpAny_handled ?_)
  rw [hh]
  refine wpAny_bind (wpAny_pure (wpAny_throw ?_))
  exact hE _ _ (fun b o e => Heap.get?_push_of_some _ (Heap.get?_push_of_some _ e)) ⟨_, Heap.get?_push_size _ rfl, rfl⟩
theorem zsEnd {Q : Fin → Shared → Prop} (hh : A.handled = none) (S : ZipSep2 zz TI TO j1 j2 f1 f2) (D1 : Draws pr w A j1 f1 m1 P1 S1) (D2 : Draws pr w A j2 f2 m1 P2 S2)
    (hz : IsZs z.heap zz TI TO .none) (hI : IsTupOf2 z.heap TI (.ref j1) (.ref j2)) (hO : IsTupOf2 z.heap TO c1 c2) (s1 : S1 m1 z.heap) (s2 : S2 m1 z.heap)
    (hE : ∀ h' tk e, (∀ b o, b ≠ zz → b ≠ TO → b ≠ j1 → b ≠ j2 → z.heap.get? b = some o → h'.get? b = some o) → (∃ o, h'.get? e = some o ∧ o.cls = .type "StopIteration") → E (.ref e) { z with heap := h', toks := tk }) :
    wpAny (model pr w) A (Builtin.«zip.__next__» ⟨[.ref zz], []⟩) Q E z := by
  obtain ⟨hp, gs, dr, tk0, os⟩ := z
  show wpAny _ _ (field (.ref zz) 2 >>= _) _ _ _
  refine wpAny_bind (wpAny_field hz rfl (x := .bool true) rfl ?_)
  show wpAny _ _ (field (.ref zz) 3 >>= _) _ _ _
  refine wpAny_bind (wpAny_field hz rfl (x := .ref TI) rfl ?_)
  refine wpAny_bind (wpAny_seqItems hI rfl ?_)
  show wpAny _ _ (Builtin.SmallTypes.ownedTupleIsFree (.ref zz) >>= _) _ _ _
  refine wpAny_bind ?_
  unfold Builtin.SmallTypes.ownedTupleIsFree
  refine wpAny_bind (wpAny_field hz rfl (x := .none) rfl (wpAny_pure ?_))
  simp only [if_true]
  refine wpAny_bind (wpAny_rule ?_)
  refine wpAny_bind (wpAny_field hz rfl (x := .ref TO) rfl ?_)
  refine wpAny_bind (wpAny_setField_rec hz (by simp) fun g0 z0 b0 => ?_)
  replace z0 : IsZs g0 zz TI TO .ellipsis := z0
  replace b0 : Heap.SameBut zz hp g0 := b0
  refine wpAny_bind ?_
  simp only [List.zipIdx_cons, List.zipIdx_nil, List.forIn_cons, List.forIn_nil]
  refine wpAny_bind (wpAny_bind (wpAny_onRaise ?_))
  show wpAny _ _ (Builtin.SmallTypes.nextOrEnd (.ref j1)) _ _ ⟨g0, gs, dr, tk0, os⟩
  refine noe_end D1 (D1.over s1 b0 S.zf1) fun q1 e1 => ?_
  replace e1 : Heap.ExtBut j1 g0 q1 := e1
  have zq : IsZs q1 zz TI TO .ellipsis := e1 _ _ S.zi1 z0
  refine wpAny_bind (wpAny_setField_rec (s := ⟨q1, gs, dr, tk0, os⟩) zq (by simp) fun q2 _ b2 => ?_)
  replace b2 : Heap.SameBut zz q1 q2 := b2
  refine wpAny_bind ?_
  refine wpAny_bind ?_
  have hd : (List.drop 1 [Value.ref j1, Value.ref j2]).zipIdx 1 = [(Value.ref j2, 1)] := rfl
  rw [hd]
  simp only [List.forIn_cons, List.forIn_nil]
  refine wpAny_bind (wpAny_bind (noe_end D2 (z := ⟨q2, gs, dr, tk0, os⟩) (D2.over (D2.frame _ _ _ (D2.over s2 b0 S.zf2) fun b hb o e => e1 b o (fun q => S.sep1_2 (q ▸ hb)) e) b2 S.zf2) fun q3 e3 => ?_))
  replace e3 : Heap.ExtBut j2 q2 q3 := e3
  simp only [Option.isSome_none, Bool.false_eq_true, if_false]
  refine wpAny_pure (wpAny_pure ?_)
  refine wpAny_bind (wpAny_rule ?_)
  have kept : ∀ b o, b ≠ zz → b ≠ TO → b ≠ j1 → b ≠ j2 → hp.get? b = some o → q3.get? b = some o := fun b o bz bT n1 n2 e => e3 b o n2 (b2.extBut b o bz (e1 b o n1 (b0.extBut b o bz e)))
  exact stopRaised (z := ⟨q3, gs, dr, tk0, os⟩) hh fun h' e k he => hE h' tk0 e (fun b o bz bT n1 n2 x => k b o (kept b o bz bT n1 n2 x)) he
theorem zsPyNext {Q : Option Value → Shared → Prop} (S : ZipSep2 zz TI TO j1 j2 f1 f2) (D1 : Draws pr w A.in1 j1 f1 m1 P1 S1) (D2 : Draws pr w A.in1 j2 f2 m2 P2 S2)
    (hz : IsZs z.heap zz TI TO .none) (hI : IsTupOf2 z.heap TI (.ref j1) (.ref j2)) (hO : IsTupOf2 z.heap TO c1 c2) (s1 : S1 i z.heap) (s2 : S2 i z.heap) (l1 : i < m1) (l2 : i < m2)
    (hQ : ∀ u1 u2 h' tk, P1 i u1 → P2 i u2 → IsZs h' zz TI TO (rawInt z.heap.objs.size) → IsTupOf2 h' TO u1 u2 → S1 (i + 1) h' → S2 (i + 1) h' → IsTupOf2 h' z.heap.objs.size u1 u2 → h'.objs.size = z.heap.objs.size + 1 →
      (∀ b o, b ≠ zz → b ≠ TO → b ≠ j1 → b ≠ j2 → z.heap.get? b = some o → h'.get? b = some o) → Q (some (.ref z.heap.objs.size)) { z with heap := h', toks := tk }) :
    wpAny (model pr w) A (pyNext (.ref zz)) Q E z := by
  have hT : z.TypeIs (.ref zz) "zip" := ⟨_, hz, rfl⟩
  unfold pyNext
  exact wpAny_bind (wpAny_attempt (wpAny_callSpecial?_slot (name := Str.ofString "__next__") hT F.slot_zip_next
    (wpAny_call_entry F.slot_zip_next hT F.entry_zip_next
      (zsNext S D1 D2 hz hI hO s1 s2 l1 l2 fun u1 u2 h' tk y1 y2 b1 b2 d1 d2 b5 b6 b7 => wpAny_pure (hQ u1 u2 h' tk y1 y2 b1 b2 d1 d2 b5 b6 b7)) (F.args_zip_next_1 _))))
theorem zsPyEnd {Q : Option Value → Shared → Prop} (hh : A.handled = none) (S : ZipSep2 zz TI TO j1 j2 f1 f2) (D1 : Draws pr w A.in1 j1 f1 m1 P1 S1) (D2 : Draws pr w A.in1 j2 f2 m1 P2 S2)
    (hz : IsZs z.heap zz TI TO .none) (hI : IsTupOf2 z.heap TI (.ref j1) (.ref j2)) (hO : IsTupOf2 z.heap TO c1 c2) (s1 : S1 m1 z.heap) (s2 : S2 m1 z.heap)
    (hQ : ∀ h' tk, (∀ b o, b ≠ zz → b ≠ TO → b ≠ j1 → b ≠ j2 → z.heap.get? b = some o → h'.get? b = some o) → Q none { z with heap := h', toks := tk }) : wpAny (model pr w) A (pyNext (.ref zz)) Q E z := by
  have hT : z.TypeIs (.ref zz) "zip" := ⟨_, hz, rfl⟩
  unfold pyNext
  refine wpAny_bind (wpAny_attempt (wpAny_callSpecial?_slot (name := Str.ofString "__next__") hT F.slot_zip_next
    (wpAny_call_entry F.slot_zip_next hT F.entry_zip_next (zsEnd (A := A.in1) (show A.in1.handled = none from hh) S D1 D2 hz hI hO s1 s2 fun h' tk e hk he => ?_) (F.args_zip_next_1 _))))
  obtain ⟨o, ho, hc⟩ := he
  refine wpAny_bind (wpAny_isInstance (T := "StopIteration") (b := true) ⟨o, ho, hc⟩ isSubtype_stop ?_)
  exact wpAny_pure (hQ _ _ hk)
theorem zsGo {elts : List Expr} {x1} {pos : Pos} {T : Addr} {Q : Unit → Shared → Prop} (hz : IsZs z.heap zz TI TO (rawInt T))
    (hQ : ∀ h', IsZs h' zz TI TO .none → Heap.SameBut zz z.heap h' → Q () { z with heap := h' }) : wpAny (model pr w) A (letOwnedTupleGo (.Tuple elts x1 pos) (.ref zz) (.ref T)) Q E z := by
  unfold letOwnedTupleGo
  refine wpAny_bind (wpAny_load hz ?_)
  show wpAny _ _ (if (["enumerate", "zip", "dict_itemiterator", "dict_reverseitemiterator", "odict_iterator", "itertools.zip_longest", "itertools.pairwise"].contains "zip" &&
      (#[rawInt T, .bool false, .bool true, .ref TI, .ref TO] : Array Value)[0]? == some (rawInt T)) = true then _ else _) Q E z
  rw [if_pos (by simp)]
  refine wpAny_bind (wpAny_rule ?_)
  show wpAny _ _ (setField (.ref zz) 0 .none) Q E z
  exact wpAny_setField_rec hz (by simp) fun h' z' b' => hQ h' z' b'
theorem zsIter {own : Value} {Q : Value → Shared → Prop} (hz : IsZs z.heap zz TI TO own) (h : Q (.ref zz) z) : wpAny (model pr w) A (pyIter (.ref zz)) Q E z := by
  have hT : z.TypeIs (.ref zz) "zip" := ⟨_, hz, rfl⟩
  refine wpAny_pyIter_slot hT F.slot_zip_iter (wpAny_call_entry F.slot_zip_iter hT F.entry_zip_iter ?_ (F.args_zip_iter_1 _))
  show wpAny _ _ (ret (.ref zz)) _ _ z
  exact wpAny_pure ⟨_, rfl, "zip", _, hT, F.slot_zip_next.lookup, h⟩
end
abbrev zsH (h : Heap) (o1 o2 : Obj) : Heap := (gzO2 h o1 o2).push { cls := .type "zip", data := .fields #[.none, .bool false, .bool true, .ref ((h.push o1).push o2).objs.size, .ref (gzT2 h o1 o2).objs.size] }
theorem meetsZs {v1 v2 : Value} {o1 o2 : Obj} {H1 H2 : Heap → Prop} (B1 : Begins v1 o1 H1) (B2 : Begins v2 o2 H2) :
    Meets (Builtin.«zip.__new__» ⟨[.type "zip", v1, v2], [(Str.ofString "strict", .bool true)]⟩) (fun _ R s => (H1 s.heap ∧ H2 s.heap) ∧
      R (.ok (.ret (.ref (gzO2 s.heap o1 o2).objs.size))) { s with heap := zsH s.heap o1 o2 }) :=
  .of_wp fun pr w A R s h => by
    obtain ⟨hp, gs, dr, tk, os⟩ := s
    obtain ⟨⟨h1, h2⟩, h⟩ := h
    have hsub := sub_zip
    have into1 : ∀ {A1 : Around} {E : Value → Shared → Prop} {Q : Value → Shared → Prop}, Q (.ref hp.objs.size) ⟨(hp.push o1), gs, dr, tk, os⟩ → wpAny (model pr w) A1 (pyIter v1) Q E ⟨hp, gs, dr, tk, os⟩ :=
      fun q => B1.iter pr w _ _ ⟨hp, gs, dr, tk, os⟩ _ (B1.keeps _ _ h1 fun b o' e => e) q
    have into2 : ∀ {A1 : Around} {E : Value → Shared → Prop} {Q : Value → Shared → Prop}, Q (.ref (hp.push o1).objs.size) ⟨((hp.push o1).push o2), gs, dr, tk, os⟩ → wpAny (model pr w) A1 (pyIter v2) Q E ⟨(hp.push o1), gs, dr, tk, os⟩ :=
      fun q => B2.iter pr w _ _ ⟨(hp.push o1), gs, dr, tk, os⟩ _ (B2.keeps _ _ h2 fun b o' e => (Heap.get?_push_of_some _ e)) q
    wp_walk using into1, into2
    exact ⟨_, rfl, h⟩
theorem zsTypeCall (a b : Value) : checkTypeCall "zip" ⟨[a, b], [(Str.ofString "strict", .bool true)]⟩ = pure () := by kernel_rfl
theorem zsNewCall (a b : Value) : checkBuiltinCall "zip.__new__" ⟨[.type "zip", a, b], [(Str.ofString "strict", .bool true)]⟩ = pure () := by kernel_rfl
theorem zsInitArgs (ob a b : Value) : argsOk "object.__init__" ⟨[ob, a, b], [(Str.ofString "strict", .bool true)]⟩ := by unfold argsOk; kernel_rfl
theorem zsBegins {pr : Program} {w : World} {A : Around} {E : Value → Shared → Prop} {z : Shared} {v1 v2 : Value} {o1 o2 : Obj} {H1 H2 : Heap → Prop} {Q : Value → Shared → Prop} (B1 : Begins v1 o1 H1) (B2 : Begins v2 o2 H2) (g1 : H1 z.heap) (g2 : H2 z.heap)
    (h : ∀ h', IsZs h' (z.heap.objs.size + 4) (z.heap.objs.size + 2) (z.heap.objs.size + 3) .none → IsTupOf2 h' (z.heap.objs.size + 2) (.ref z.heap.objs.size) (.ref (z.heap.objs.size + 1)) →
      IsTupOf2 h' (z.heap.objs.size + 3) .none .none → h'.get? z.heap.objs.size = some o1 → h'.get? (z.heap.objs.size + 1) = some o2 → (∀ b o, z.heap.get? b = some o → h'.get? b = some o) → Q (.ref (z.heap.objs.size + 4)) { z with heap := h' }) :
    wpAny (model pr w) A (call (.type "zip") [v1, v2] [(Str.ofString "strict", .bool true)]) Q E z := by
  refine callType_newKw F.called_zip (by decide) (zsTypeCall _ _) (zsNewCall _ _) (fun ob => zsInitArgs ob _ _) F.entry_zip_new (meetsZs B1 B2) ⟨⟨g1, g2⟩, ?_⟩
  have k1 : (z.heap.push o1).objs.size = z.heap.objs.size + 1 := by rw [Heap.size_push]
  have k2 : ((z.heap.push o1).push o2).objs.size = z.heap.objs.size + 2 := by rw [Heap.size_push, k1]
  have kT : (gzT2 z.heap o1 o2).objs.size = z.heap.objs.size + 3 := by rw [Heap.size_push, k2]
  have kO : (gzO2 z.heap o1 o2).objs.size = z.heap.objs.size + 4 := by rw [Heap.size_push, kT]
  have gZ : (zsH z.heap o1 o2).get? (gzO2 z.heap o1 o2).objs.size = some { cls := .type "zip", data := .fields #[.none, .bool false, .bool true, .ref ((z.heap.push o1).push o2).objs.size, .ref (gzT2 z.heap o1 o2).objs.size] } := Heap.get?_push_size _ rfl
  have gO : (zsH z.heap o1 o2).get? (gzT2 z.heap o1 o2).objs.size = some { cls := .type "tuple", data := .seq #[.none, .none] } := Heap.get?_push_of_some _ (Heap.get?_push_size _ rfl)
  have gT : (zsH z.heap o1 o2).get? ((z.heap.push o1).push o2).objs.size = some { cls := .type "tuple", data := .seq #[.ref z.heap.objs.size, .ref (z.heap.push o1).objs.size] } := Heap.get?_push_of_some _ (Heap.get?_push_of_some _ (Heap.get?_push_size _ rfl))
  have ga : (zsH z.heap o1 o2).get? z.heap.objs.size = some o1 := Heap.get?_push_of_some _ (Heap.get?_push_of_some _ (Heap.get?_push_of_some _ (Heap.get?_push_of_some _ (Heap.get?_push_size _ B1.free))))
  have gb : (zsH z.heap o1 o2).get? (z.heap.push o1).objs.size = some o2 := Heap.get?_push_of_some _ (Heap.get?_push_of_some _ (Heap.get?_push_of_some _ (Heap.get?_push_size _ B2.free)))
  rw [kO, kT, k2] at gZ
  rw [kT] at gO
  rw [k2, k1] at gT
  rw [k1] at gb
  show _ ∧ _
  rw [kO]
  exact ⟨⟨_, gZ, rfl⟩, h _ gZ gT gO ga gb fun b o e => Heap.get?_push_of_some _ (Heap.get?_push_of_some _ (Heap.get?_push_of_some _ (Heap.get?_push_of_some _ (Heap.get?_push_of_some _ e))))⟩
theorem callTypeKw {M : Model} {A : Around} {E : Value → Shared → Prop} {z : Shared} {pos : Pos} {T : String} {first : List Value} {args : List (Bool × Sem Value)} {keywords : List (Option Str × Sem Value)} {Q : Value → Shared → Prop}
    (hplain : args.any (·.1) = false) (hkw : keywords.any (·.1.isNone) = false) (h : wpAny M A (evalArgs (.type T) true args keywords) (fun a z1 => wpAny M A (call (.type T) (first ++ a.pos) a.kw) Q E z1) E z) :
    wpAny M A (callWith pos (.type T) first args keywords) Q E z := by
  unfold callWith
  refine wpAny_bind (wpAny_holding (wpAny_mono h (fun a z1 h1 => wpAny_bind (wpAny_standAt ?_)) fun _ _ x => x))
  simp only [hplain, hkw, Bool.or_false]
  refine wpAny_bind (wpAny_pure ?_)
  exact wpAny_bind (wpAny_mono h1 (fun r z2 hr => wpAny_bind (wpAny_holding (wpAny_point (wpAny_pure hr)))) fun _ _ x => x)
/-- the list at a, the tuple at b, of one length -/
def ItzS (K : PySem.W.Frag) (a b : Addr) : It :=
  ⟨fun n H => ∃ (xs ys : List V) (x y : V), SqL K H a xs ∧ SqT K H b ys ∧ xs[n]? = some x ∧ ys[n]? = some y,
    fun n H v H' => ∃ T x y, v = .ref T ∧ H T = none ∧ H' = upd H T (.tup [x, y]) ∧ (∀ xs, SqL K H a xs → xs[n]? = some x) ∧ ∀ ys, SqT K H b ys → ys[n]? = some y,
    fun n H => ∃ xs ys : List V, SqL K H a xs ∧ SqT K H b ys ∧ xs.length = n ∧ ys.length = n⟩
theorem turnZs {Pg : Program} {w : World} {K : PySem.W.Frag} {elts : List Expr} {kk : Nat} {tpos : Pos} {a b zz TI TO j1 j2 : Addr} (S : ZipSep2 zz TI TO j1 j2 [j1, a] [j2, b]) (na : a ≠ j1) (nb : b ≠ j2) :
    Turn Pg w K (.Tuple elts kk tpos) (ItzS K a b) [zz, TI, TO, j1, j2] zz (fun n h => IsZs h zz TI TO .none ∧ IsTupOf2 h TI (.ref j1) (.ref j2) ∧ (∃ x y, IsTupOf2 h TO x y) ∧ h.IsListIter j1 a n ∧ h.IsTupleIter j2 b n) where
  mem := by simp
  obj := fun n h s1 c hc => by
    obtain ⟨hz, hI, ⟨x, y, hO⟩, ⟨o1, e1, _, d1⟩, ⟨o2, e2, _, d2⟩⟩ := s1
    have e' : c = zz ∨ c = TI ∨ c = TO ∨ c = j1 ∨ c = j2 := by simpa using hc
    rcases e' with rfl | rfl | rfl | rfl | rfl
    · exact ⟨_, hz, fun v q => nomatch q⟩
    · exact ⟨_, hI, fun v q => nomatch q⟩
    · exact ⟨_, hO, fun v q => nomatch q⟩
    · exact ⟨o1, e1, fun v q => by rw [d1] at q; cases q⟩
    · exact ⟨o2, e2, fun v q => by rw [d2] at q; cases q⟩
  keep := fun n h h' s1 kp => by
    obtain ⟨hz, hI, ⟨x, y, hO⟩, g1, g2⟩ := s1
    exact ⟨kp zz (by simp) _ hz, kp TI (by simp) _ hI, ⟨x, y, kp TO (by simp) _ hO⟩, g1.at fun o q => kp j1 (by simp) o q, g2.at fun o q => kp j2 (by simp) o q⟩
  item := by
    intro X hP hw hK hc n pins s σ H E I fps s1 hg
    subst hP hw hK
    obtain ⟨hz, hI, ⟨x0, y0, hO⟩, g1, g2⟩ := s1
    obtain ⟨xs, ys, x, y, qx, qy, hx, hy⟩ := hg
    obtain ⟨its, rv, p, _⟩ := I.list qx
    obtain ⟨its2, rv2, p2, _⟩ := I.tuple qy
    obtain ⟨u, hu, ru⟩ := rv.get hx
    obtain ⟨u2, hu2, ru2⟩ := rv2.get hy
    have zlt : zz < s.heap.objs.size := Heap.lt_size hz
    have n1 : n < its.toArray.size := by
      obtain ⟨h', _⟩ := List.getElem?_eq_some_iff.mp hu
      simpa using h'
    have n2 : n < its2.toArray.size := by
      obtain ⟨h', _⟩ := List.getElem?_eq_some_iff.mp hu2
      simpa using h'
    have hd : X.A.in1.handled = none := I.ok.hd hc
    refine zsPyNext S (Draws.list (A := X.A.in1) hd j1 a na its.toArray) (Draws.tuple (A := X.A.in1) hd j2 b nb its2.toArray) hz hI hO ⟨g1, p.isList⟩ ⟨g2, p2⟩ n1 n2 fun w1 w2 h' tk hP1 hP2 z' O' t1 t2 hT hsz hk => ?_
    have ew1 : w1 = u := by
      have : its.toArray[n]? = some u := by simpa using hu
      rw [this] at hP1
      cases hP1
      rfl
    have ew2 : w2 = u2 := by
      have : its2.toArray[n]? = some u2 := by simpa using hu2
      rw [this] at hP2
      cases hP2
      rfl
    subst ew1 ew2
    refine ⟨_, rfl, zsGo (z := { s with heap := h', toks := tk }) z' fun h'' z'' sb => ?_⟩
    have hT2 : h''.get? s.heap.objs.size = some { cls := .type "tuple", data := .seq #[w1, w2] } := (sb.2 _ (Nat.ne_of_gt zlt)).trans hT
    have fresh : ObjOk X.prog X.w (upd H s.heap.objs.size (.tup [x, y])) h'' s.heap.objs.size (.tup [x, y]) :=
      ⟨by show 2 ≤ sizeLine; decide, [w1, w2], .cons ru (.cons ru2 .nil), ⟨_, hT2, rfl, _, rfl⟩⟩
    have I2 : Inv X pins σ (upd H s.heap.objs.size (.tup [x, y])) { s with heap := h'', toks := tk } :=
      I.turnedNew (ch := [zz, TI, TO, j1, j2]) (fun c o hb q => (sb.2 c (fun z => hb (by simp [z]))).trans (hk c o (fun z => hb (by simp [z])) (fun z => hb (by simp [z])) (fun z => hb (by simp [z])) (fun z => hb (by simp [z])) q)) fps (Nat.le_refl _) fresh
    refine ⟨.ref s.heap.objs.size, _, I2, rfl, ⟨_, x, y, rfl, I.hok.fresh (Nat.le_refl _), rfl, fun l hl => by rw [I.list_inj hl qx]; exact hx, fun l hl => by rw [I.tuple_inj hl qy]; exact hy⟩, ⟨z'', ?_, ⟨w1, w2, ?_⟩, ?_, ?_⟩, fun c hcm => ?_⟩
    · exact (sb.2 _ S.TIz).trans (hk _ _ S.TIz S.TITO S.TIi1 S.TIi2 hI)
    · exact (sb.2 _ S.TOz).trans O'
    · exact t1.1.at fun o q => (sb.2 _ S.zi1.symm).trans q
    · exact t2.1.at fun o q => (sb.2 _ S.zi2.symm).trans q
    · have hlt : c < s.heap.objs.size := by
        have e' : c = zz ∨ c = TI ∨ c = TO ∨ c = j1 ∨ c = j2 := by simpa using hcm
        rcases e' with rfl | rfl | rfl | rfl | rfl
        · exact zlt
        · exact Heap.lt_size hI
        · exact Heap.lt_size hO
        · obtain ⟨_, e1, _⟩ := g1
          exact Heap.lt_size e1
        · obtain ⟨_, e2, _⟩ := g2
          exact Heap.lt_size e2
      rw [upd_ne (Nat.ne_of_lt hlt)]
      exact (fps c hcm).1
  done := by
    intro X hP hw hK hc n pins s σ H E I fps s1 hg
    subst hP hw hK
    obtain ⟨hz, hI, ⟨x0, y0, hO⟩, g1, g2⟩ := s1
    obtain ⟨xs, ys, qx, qy, lx, ly⟩ := hg
    obtain ⟨its, rv, p, _⟩ := I.list qx
    obtain ⟨its2, rv2, p2, _⟩ := I.tuple qy
    have e1 : its.toArray.size = n := by
      rw [← lx, rv.length]
      simp
    have e2 : its2.toArray.size = n := by
      rw [← ly, rv2.length]
      simp
    have hd : X.A.in1.handled = none := I.ok.hd hc
    have D1 := Draws.list (prog := X.prog) (w := X.w) (A := X.A.in1) hd j1 a na its.toArray
    have D2 := Draws.tuple (prog := X.prog) (w := X.w) (A := X.A.in1) hd j2 b nb its2.toArray
    rw [e1] at D1
    rw [e2] at D2
    exact zsPyEnd (I.ok.hd hc) S D1 D2 hz hI hO ⟨g1, p.isList⟩ ⟨g2, p2⟩ fun h' tk hk => ⟨rfl, I.turnedL (t' := tk) (ch := [zz, TI, TO, j1, j2]) (fun c o hb q =>
      hk c o (fun z => hb (by simp [z])) (fun z => hb (by simp [z])) (fun z => hb (by simp [z])) (fun z => hb (by simp [z])) q) fps⟩
  self := fun A n s Q E s1 h => zsIter s1.1 h
end DL

/-! for .. in zip(a, b, strict=True), by data -/
namespace DL
open PySem PySem.Spec PyProof.Rows L2
def iZs (K : PySem.W.Frag) (ta tk : TA) : TI := fun σ H R => ta σ H fun vs H1 => tk σ H1 fun ks H2 => ks = [.bl true] ∧ ∃ a b xs ys, vs = [.ref a, .ref b] ∧ SqL K H2 a xs ∧ SqT K H2 b ys ∧ R (ItzS K a b) H2
theorem notTwo {c x y : Nat} (h1 : c ≠ x) (h2 : c ≠ y) : c ∉ [x, y] := fun q => by
  rcases List.mem_cons.mp q with q | q
  · exact h1 q
  · exact h2 (List.mem_singleton.mp q)
theorem sepNat (n a b : Nat) (la : a < n) (lb : b < n) : n + 2 ≠ n + 4 ∧ n + 3 ≠ n + 4 ∧ n + 2 ≠ n + 3 ∧ n + 2 ≠ n ∧ n + 4 ∉ [n, a] ∧ n + 3 ∉ [n, a] ∧ n + 2 ≠ n + 1 ∧ n + 4 ∉ [n + 1, b] ∧ n + 3 ∉ [n + 1, b] ∧ n ∉ [n + 1, b] ∧ n + 1 ∉ [n, a] :=
  ⟨by omega, by omega, by omega, by omega, notTwo (by omega) (by omega), notTwo (by omega) (by omega), by omega, notTwo (by omega) (by omega), notTwo (by omega) (by omega), notTwo (by omega) (by omega), notTwo (by omega) (by omega)⟩
theorem sepOf (n a b : Addr) (la : a < n) (lb : b < n) : ZipSep2 (n + 4) (n + 2) (n + 3) n (n + 1) [n, a] [n + 1, b] :=
  have q := sepNat n a b la lb
  ⟨q.1, q.2.1, q.2.2.1, q.2.2.2.1, List.mem_cons_self, q.2.2.2.2.1, q.2.2.2.2.2.1, q.2.2.2.2.2.2.1, List.mem_cons_self, q.2.2.2.2.2.2.2.1, q.2.2.2.2.2.2.2.2.1, q.2.2.2.2.2.2.2.2.2.1, q.2.2.2.2.2.2.2.2.2.2⟩
theorem piZs {X : Cx} {e e2 e3 : Expr} {ta tk : TA} {p pos kp tpos : Pos} {elts : List Expr} {kk : Nat} (hg : Gl X "zip") (hm : X.mg "zip" = none) (ha : PA X [e, e2] ta) (hk : PK X [⟨some "strict", e3, kp⟩] tk)
    (he : backTo pos (starEach [e, e2] X.env) = (false, eval e X.env) :: backTo pos (starEach [e2] X.env) := by rfl) (hpl : (backTo pos (starEach [e, e2] X.env)).any (·.1) = false := by rfl)
    (hall : (backToKw pos (keywordEach [⟨some "strict", e3, kp⟩] X.env)).all (·.1.isSome) = true := by rfl) (hkn : (backToKw pos (keywordEach [⟨some "strict", e3, kp⟩] X.env)).any (·.1.isNone) = false := by rfl)
    (hks : (backToKw pos (keywordEach [⟨some "strict", e3, kp⟩] X.env)).filterMap (·.1) = ([Str.ofString "strict"] : List Str) := by rfl) :
    PI X (.Tuple elts kk tpos) (.Call (.Name "zip" p) [e, e2] [⟨some "strict", e3, kp⟩] pos) (iZs X.K ta tk) := by
  refine ⟨fun pins s σ H R I h => ?_⟩
  refine wpAny_Call_Name_kw (ld_blt I hg hm PyProof.Rows.boot_zip (callTypeKw hpl hkn ?_))
  have go := ha.run pos pins s σ H _ I h
  rw [he] at go ⊢
  refine evalArgs_kwB hall (thn go fun us s1 ⟨vs, H1, I1, r1, q1⟩ => thn (hk.run pos pins s1 σ H1 _ I1 q1) fun ws z ⟨ks, H2, I2, r2, ek, q2⟩ => ?_)
  subst ek
  obtain ⟨a, b, xs, ys, ex, hx, hy, q⟩ := q2
  subst ex
  rw [hks]
  cases r2 with
  | cons rk rr =>
    cases rr
    cases rk
    cases r1 with
    | cons r rr =>
      cases rr with
      | cons r' rr =>
        cases rr
        cases r
        cases r'
        obtain ⟨its, rv, p1, _⟩ := I2.list hx
        obtain ⟨its2, rv2, p2, _⟩ := I2.tuple hy
        obtain ⟨o2, ho2, _⟩ := id p2
        have la : a < z.heap.objs.size := p1.lt
        have lb : b < z.heap.objs.size := Heap.lt_size ho2
        have fps : ∀ c, c ∈ [z.heap.objs.size + 4, z.heap.objs.size + 2, z.heap.objs.size + 3, z.heap.objs.size, z.heap.objs.size + 1] → FpOk X pins H2 c := fun c hc => by
          have hle : z.heap.objs.size ≤ c := by
            have e' : c = z.heap.objs.size + 4 ∨ c = z.heap.objs.size + 2 ∨ c = z.heap.objs.size + 3 ∨ c = z.heap.objs.size ∨ c = z.heap.objs.size + 1 := by simpa using hc
            omega
          exact I2.fpOk hle (I2.hok.fresh hle)
        show wpAny _ _ (call (.type "zip") [.ref a, .ref b] [(Str.ofString "strict", .bool true)]) _ _ z
        refine zsBegins (begins_list a its.toArray) (begins_tuple b its2.toArray) p1.isList p2 fun h' hz hI hO h1 h2 hkp => zsIter hz ?_
        have I3 : Inv X pins σ H2 { z with heap := h' } := I2.kept (t' := z.toks) hkp
        have sep := sepOf z.heap.objs.size a b la lb
        exact ⟨z.heap.objs.size + 4, [z.heap.objs.size + 4, z.heap.objs.size + 2, z.heap.objs.size + 3, z.heap.objs.size, z.heap.objs.size + 1], _, _, H2, rfl, I3, turnZs sep (Nat.ne_of_lt la) (Nat.ne_of_lt (Nat.lt_succ_of_lt lb)), ⟨hz, hI, ⟨_, _, hO⟩, ⟨_, h1, rfl, rfl⟩, ⟨_, h2, rfl, rfl⟩⟩, fps, q⟩
section
variable {K : PySem.W.Frag} {w : Wd} {st : Sto}
theorem wk_zipS {d e : D} {a b : Addr} {xs ys : List D} (R1 : Rep K w d (.ref a)) (e1 : deref st d = .lst xs) (R2 : Rep K w e (.ref b)) (e2 : deref st e = .tup ys) (hl : xs.length = ys.length) : DWk K (ItzS K a b) w (zipD xs ys) (srcOf d xs) where
  goes := fun i w1 st1 H1 hi l W1 s => by
    obtain ⟨vs, q, r⟩ := src_seq R1 e1 l W1 s
    obtain ⟨us, q2, r2⟩ := tup_seq R2 e2 l W1
    rw [zipD_length] at hi
    exact ⟨vs, us, vs[i]'(by rw [r.length]; omega), us[i]'(by rw [r2.length]; omega), q, q2, List.getElem?_eq_getElem _, List.getElem?_eq_getElem _⟩
  stops := fun w1 st1 H1 l W1 s => by
    obtain ⟨vs, q, r⟩ := src_seq R1 e1 l W1 s
    obtain ⟨us, q2, r2⟩ := tup_seq R2 e2 l W1
    exact ⟨vs, us, q, q2, by rw [zipD_length, r.length]; omega, by rw [zipD_length, r2.length]; omega⟩
  yields := fun i w1 st1 H1 v H2 hi l W1 s y => by
    obtain ⟨vs, q, r⟩ := src_seq R1 e1 l W1 s
    obtain ⟨us, q2, r2⟩ := tup_seq R2 e2 l W1
    obtain ⟨T, x, u, rfl, hT, rfl, h1, h2⟩ := y
    obtain ⟨d', g1, g2⟩ := r.getv (h1 vs q)
    obtain ⟨d2, g3, g4⟩ := r2.getv (h2 us q2)
    obtain ⟨w2, l2, W2, R3⟩ := pair_put W1 hT g2 g4
    exact ⟨w2, _, l2, W2, zipD_get _ _ _ _ _ g1 g3, R3⟩
end
def zipSK (kk : DIk) (d : D) : DK := fun e s2 => match deref s2 d, deref s2 e with
  | .lst xs, .tup ys => xs.length = ys.length ∧ (xs.length ≤ 16777216 → kk (zipD xs ys) (srcOf d xs) s2)
  | _, _ => False
def dZipS (t u : DE) : DI := fun env st kk => t env st fun d s1 => u env s1 (zipSK kk d)
section
variable {X : Cx} {e e2 : Expr} {ta tb : DE} {p pos kp : Pos}
theorem pdi_zipS {elts : List Expr} {k k3 : Nat} {tpos p3 : Pos} (hm : X.mg "zip" = none) (ha : PD X e ta) (hb : PD X e2 tb) (hg : Gl X "zip" := by rfl) (hs : starEach [e, e2] X.env = (false, eval e X.env) :: starEach [e2] X.env := by rfl) (hs2 : starEach [e2] X.env = [(false, eval e2 X.env)] := by rfl)
    (he : backTo pos (starEach [e, e2] X.env) = (false, eval e X.env) :: backTo pos (starEach [e2] X.env) := by rfl) (hpl : (backTo pos (starEach [e, e2] X.env)).any (·.1) = false := by rfl)
    (hall : (backToKw pos (keywordEach [⟨some "strict", .Constant (.bool true) k3 p3, kp⟩] X.env)).all (·.1.isSome) = true := by rfl) (hkn : (backToKw pos (keywordEach [⟨some "strict", .Constant (.bool true) k3 p3, kp⟩] X.env)).any (·.1.isNone) = false := by rfl)
    (hks : (backToKw pos (keywordEach [⟨some "strict", .Constant (.bool true) k3 p3, kp⟩] X.env)).filterMap (·.1) = ([Str.ofString "strict"] : List Str) := by rfl) :
    PDI X (.Tuple elts k tpos) (.Call (.Name "zip" p) [e, e2] [⟨some "strict", .Constant (.bool true) k3 p3, kp⟩] pos) (dZipS ta tb) := by
  refine (piZs hg hm (pda_cons ha (pda_cons hb pda_nil hs2) hs) (pdk_cons pd_bl pdk_nil) he hpl hall hkn hks).wk fun σ H R ⟨w, env, st, kk, W, E, h, fo⟩ => ?_
  have h' : dCons ta (dCons tb dNil) env st (fun ds s => match ds with
    | [d, e] => zipSK kk d e s
    | _ => False) := h
  refine ⟨w, env, st, _, W, E, h', fun ds st1 vs w1 H1 h1 l1 W1 R1 => ?_⟩
  refine ⟨w1, env, st1, fun es s => es = [.bl true] ∧ s = st1, W1, E.mono l1, ⟨rfl, rfl⟩, fun es st2 ks w2 H2 q l2 W2 R2 => ?_⟩
  obtain ⟨rfl, rfl⟩ := q
  obtain ⟨v, rfl, Rv⟩ := one_rep R2
  simp only [Rep] at Rv
  subst Rv
  refine ⟨rfl, ?_⟩
  split at h1
  · rename_i d e
    obtain ⟨v, u, rfl, Rd, Re⟩ := two_rep R1
    unfold zipSK at h1
    split at h1
    · rename_i xs ys hd he'
      have Rd' := Rep.mono l2 _ _ Rd
      have Re' := Rep.mono l2 _ _ Re
      obtain ⟨a, us, rfl, q1, r1, n1⟩ := rep_lst W2 Rd' hd
      obtain ⟨b, zs, rfl, q2, r2, n2⟩ := rep_tup W2 Re' he'
      exact ⟨a, b, us, zs, rfl, q1, q2, fo _ _ _ _ _ _ (h1.2 (by rw [← r1.length]; exact line_of n1)) (l1.trans l2) W2 (wk_zipS Rd' hd Re' he' h1.1)⟩
    · exact h1.elim
  · exact h1.elim
variable {env : DL.Env} {st : Sto} {kk : DIk} {ds es : List D} {i : Nat}
theorem e_zipS : dZipS ta tb env st kk = ta env st fun d s1 => tb env s1 (zipSK kk d) := rfl
theorem e_zipSK : zipSK kk (.lst ds) (.tup es) st = (ds.length = es.length ∧ (ds.length ≤ 16777216 → kk (zipD ds es) [] st)) := rfl
theorem e_zipSKO {xs : List D} (h : st[i]? = some xs) : zipSK kk (.obj i) (.tup es) st = (xs.length = es.length ∧ (xs.length ≤ 16777216 → kk (zipD xs es) [(i, xs)] st)) := by simp [zipSK, deref, srcOf, h]
end
end DL

/-! zip of a list and a tuple, not strict -/
namespace DL
open PySem PySem.Spec PyProof.Rows L2
/-- the list at a, the tuple at b, as far as both go -/
def ItzM (K : PySem.W.Frag) (a b : Addr) : It :=
  ⟨fun n H => ∃ (xs ys : List V) (x y : V), SqL K H a xs ∧ SqT K H b ys ∧ xs[n]? = some x ∧ ys[n]? = some y,
    fun n H v H' => ∃ T x y, v = .ref T ∧ H T = none ∧ H' = upd H T (.tup [x, y]) ∧ (∀ xs, SqL K H a xs → xs[n]? = some x) ∧ ∀ ys, SqT K H b ys → ys[n]? = some y,
    fun n H => ∃ xs ys : List V, SqL K H a xs ∧ SqT K H b ys ∧ n ≤ xs.length ∧ n ≤ ys.length ∧ (n = xs.length ∨ n = ys.length)⟩
theorem turnZm {Pg : Program} {w : World} {K : PySem.W.Frag} {elts : List Expr} {kk : Nat} {tpos : Pos} {a b zz TI TO j1 j2 : Addr} (S : ZipSep2 zz TI TO j1 j2 [j1, a] [j2, b]) (na : a ≠ j1) (nb : b ≠ j2) :
    Turn Pg w K (.Tuple elts kk tpos) (ItzM K a b) [zz, TI, TO, j1, j2] zz (fun n h => IsZip h zz TI TO .none ∧ IsTupOf2 h TI (.ref j1) (.ref j2) ∧ (∃ x y, IsTupOf2 h TO x y) ∧ h.IsListIter j1 a n ∧ h.IsTupleIter j2 b n) where
  mem := by simp
  obj := fun n h s1 c hc => by
    obtain ⟨hz, hI, ⟨x, y, hO⟩, ⟨o1, e1, _, d1⟩, ⟨o2, e2, _, d2⟩⟩ := s1
    have e' : c = zz ∨ c = TI ∨ c = TO ∨ c = j1 ∨ c = j2 := by simpa using hc
    rcases e' with rfl | rfl | rfl | rfl | rfl
    · exact ⟨_, hz, fun v q => nomatch q⟩
    · exact ⟨_, hI, fun v q => nomatch q⟩
    · exact ⟨_, hO, fun v q => nomatch q⟩
    · exact ⟨o1, e1, fun v q => by rw [d1] at q; cases q⟩
    · exact ⟨o2, e2, fun v q => by rw [d2] at q; cases q⟩
  keep := fun n h h' s1 kp => by
    obtain ⟨hz, hI, ⟨x, y, hO⟩, g1, g2⟩ := s1
    exact ⟨kp zz (by simp) _ hz, kp TI (by simp) _ hI, ⟨x, y, kp TO (by simp) _ hO⟩, g1.at fun o q => kp j1 (by simp) o q, g2.at fun o q => kp j2 (by simp) o q⟩
  item := by
    intro X hP hw hK hc n pins s σ H E I fps s1 hg
    subst hP hw hK
    obtain ⟨hz, hI, ⟨x0, y0, hO⟩, g1, g2⟩ := s1
    obtain ⟨xs, ys, x, y, qx, qy, hx, hy⟩ := hg
    obtain ⟨its, rv, p, _⟩ := I.list qx
    obtain ⟨its2, rv2, p2, _⟩ := I.tuple qy
    obtain ⟨u, hu, ru⟩ := rv.get hx
    obtain ⟨u2, hu2, ru2⟩ := rv2.get hy
    have zlt : zz < s.heap.objs.size := Heap.lt_size hz
    have n1 : n < its.toArray.size := by
      obtain ⟨h', _⟩ := List.getElem?_eq_some_iff.mp hu
      simpa using h'
    have n2 : n < its2.toArray.size := by
      obtain ⟨h', _⟩ := List.getElem?_eq_some_iff.mp hu2
      simpa using h'
    have hd : X.A.in1.handled = none := I.ok.hd hc
    refine wpAny_pyNext_zipD2_item S (Draws.list (A := X.A.in1) hd j1 a na its.toArray) (Draws.tuple (A := X.A.in1) hd j2 b nb its2.toArray) hz hI hO ⟨g1, p.isList⟩ ⟨g2, p2⟩ n1 n2 fun w1 w2 h' tk hP1 hP2 z' O' t1 t2 hT hsz hk => ?_
    have ew1 : w1 = u := by
      have : its.toArray[n]? = some u := by simpa using hu
      rw [this] at hP1
      cases hP1
      rfl
    have ew2 : w2 = u2 := by
      have : its2.toArray[n]? = some u2 := by simpa using hu2
      rw [this] at hP2
      cases hP2
      rfl
    subst ew1 ew2
    refine ⟨_, rfl, wpAny_letOwnedTupleGo_zip (s := { s with heap := h', toks := tk }) z' fun h'' z'' sb => ?_⟩
    have hT2 : h''.get? s.heap.objs.size = some { cls := .type "tuple", data := .seq #[w1, w2] } := (sb.2 _ (Nat.ne_of_gt zlt)).trans hT
    have fresh : ObjOk X.prog X.w (upd H s.heap.objs.size (.tup [x, y])) h'' s.heap.objs.size (.tup [x, y]) :=
      ⟨by show 2 ≤ sizeLine; decide, [w1, w2], .cons ru (.cons ru2 .nil), ⟨_, hT2, rfl, _, rfl⟩⟩
    have I2 : Inv X pins σ (upd H s.heap.objs.size (.tup [x, y])) { s with heap := h'', toks := tk } :=
      I.turnedNew (ch := [zz, TI, TO, j1, j2]) (fun c o hb q => (sb.2 c (fun z => hb (by simp [z]))).trans (hk c o (fun z => hb (by simp [z])) (fun z => hb (by simp [z])) (fun z => hb (by simp [z])) (fun z => hb (by simp [z])) q)) fps (Nat.le_refl _) fresh
    refine ⟨.ref s.heap.objs.size, _, I2, rfl, ⟨_, x, y, rfl, I.hok.fresh (Nat.le_refl _), rfl, fun l hl => by rw [I.list_inj hl qx]; exact hx, fun l hl => by rw [I.tuple_inj hl qy]; exact hy⟩, ⟨z'', ?_, ⟨w1, w2, ?_⟩, ?_, ?_⟩, fun c hcm => ?_⟩
    · exact (sb.2 _ S.TIz).trans (hk _ _ S.TIz S.TITO S.TIi1 S.TIi2 hI)
    · exact (sb.2 _ S.TOz).trans O'
    · exact t1.1.at fun o q => (sb.2 _ S.zi1.symm).trans q
    · exact t2.1.at fun o q => (sb.2 _ S.zi2.symm).trans q
    · have hlt : c < s.heap.objs.size := by
        have e' : c = zz ∨ c = TI ∨ c = TO ∨ c = j1 ∨ c = j2 := by simpa using hcm
        rcases e' with rfl | rfl | rfl | rfl | rfl
        · exact zlt
        · exact Heap.lt_size hI
        · exact Heap.lt_size hO
        · obtain ⟨_, e1, _⟩ := g1
          exact Heap.lt_size e1
        · obtain ⟨_, e2, _⟩ := g2
          exact Heap.lt_size e2
      rw [upd_ne (Nat.ne_of_lt hlt)]
      exact (fps c hcm).1
  done := by
    intro X hP hw hK hc n pins s σ H E I fps s1 hg
    subst hP hw hK
    obtain ⟨hz, hI, ⟨x0, y0, hO⟩, g1, g2⟩ := s1
    obtain ⟨xs, ys, qx, qy, lx, ly, le⟩ := hg
    obtain ⟨its, rv, p, _⟩ := I.list qx
    obtain ⟨its2, rv2, p2, _⟩ := I.tuple qy
    have e1 : its.toArray.size = xs.length := by
      rw [rv.length]
      simp
    have e2 : its2.toArray.size = ys.length := by
      rw [rv2.length]
      simp
    have hd : X.A.in1.handled = none := I.ok.hd hc
    have D1 := Draws.list (prog := X.prog) (w := X.w) (A := X.A.in1) hd j1 a na its.toArray
    have D2 := Draws.tuple (prog := X.prog) (w := X.w) (A := X.A.in1) hd j2 b nb its2.toArray
    exact wpAny_pyNext_zipD2_end S D1 D2 hz hI hO ⟨g1, p.isList⟩ ⟨g2, p2⟩ (by omega) (by omega) (by omega) fun h' tk hk => ⟨rfl, I.turnedL (t' := tk) (ch := [zz, TI, TO, j1, j2]) (fun c o hb q =>
      hk c o (fun z => hb (by simp [z])) (fun z => hb (by simp [z])) (fun z => hb (by simp [z])) (fun z => hb (by simp [z])) q) fps⟩
  self := fun A n s Q E s1 h => wpAny_pyIter_zip s1.1 h
def iZm (K : PySem.W.Frag) (ta : TA) : TI := fun σ H R => ta σ H fun vs H2 => ∃ a b xs ys, vs = [.ref a, .ref b] ∧ SqL K H2 a xs ∧ SqT K H2 b ys ∧ R (ItzM K a b) H2
theorem piZm {X : Cx} {e e2 : Expr} {ta : TA} {p pos tpos : Pos} {elts : List Expr} {kk : Nat} (hg : Gl X "zip") (hm : X.mg "zip" = none) (ha : PA X [e, e2] ta)
    (hs : starEach [e, e2] X.env = (false, eval e X.env) :: starEach [e2] X.env := by rfl) (hpl : (backTo pos (starEach [e2] X.env)).any (·.1) = false := by rfl) :
    PI X (.Tuple elts kk tpos) (.Call (.Name "zip" p) [e, e2] [] pos) (iZm X.K ta) := by
  refine ⟨fun pins s σ H R I h => ?_⟩
  refine Call_ (ld_blt I hg hm PyProof.Rows.boot_zip (PyProof.Rows.callWith_type1 (thn (ha.run pos pins s σ H _ I h) fun us z ⟨vs, H2, I2, r1, q1⟩ => ?_) hs hpl))
  obtain ⟨a, b, xs, ys, ex, hx, hy, q⟩ := q1
  subst ex
  cases r1 with
  | cons r rr =>
    cases rr with
    | cons r' rr =>
      cases rr
      cases r
      cases r'
      obtain ⟨its, rv, p1, _⟩ := I2.list hx
      obtain ⟨its2, rv2, p2, _⟩ := I2.tuple hy
      obtain ⟨o2, ho2, _⟩ := id p2
      have la : a < z.heap.objs.size := p1.lt
      have lb : b < z.heap.objs.size := Heap.lt_size ho2
      have fps : ∀ c, c ∈ [z.heap.objs.size + 4, z.heap.objs.size + 2, z.heap.objs.size + 3, z.heap.objs.size, z.heap.objs.size + 1] → FpOk X pins H2 c := fun c hc => by
        have hle : z.heap.objs.size ≤ c := by
          have e' : c = z.heap.objs.size + 4 ∨ c = z.heap.objs.size + 2 ∨ c = z.heap.objs.size + 3 ∨ c = z.heap.objs.size ∨ c = z.heap.objs.size + 1 := by simpa using hc
          omega
        exact I2.fpOk hle (I2.hok.fresh hle)
      refine zip_begins2 (begins_list a its.toArray) (begins_tuple b its2.toArray) p1.isList p2 fun h' hz hI hO h1 h2 hsz hkp => wpAny_pyIter_zip hz ?_
      have I3 : Inv X pins σ H2 { z with heap := h' } := I2.kept (t' := z.toks) hkp
      have sep := sepOf z.heap.objs.size a b la lb
      exact ⟨z.heap.objs.size + 4, [z.heap.objs.size + 4, z.heap.objs.size + 2, z.heap.objs.size + 3, z.heap.objs.size, z.heap.objs.size + 1], _, _, H2, rfl, I3, turnZm sep (Nat.ne_of_lt la) (Nat.ne_of_lt (Nat.lt_succ_of_lt lb)), ⟨hz, hI, ⟨_, _, hO⟩, ⟨_, h1, rfl, rfl⟩, ⟨_, h2, rfl, rfl⟩⟩, fps, q⟩
section
variable {K : PySem.W.Frag} {w : Wd} {st : Sto}
theorem wk_zipM {d e : D} {a b : Addr} {xs ys : List D} (R1 : Rep K w d (.ref a)) (e1 : deref st d = .lst xs) (R2 : Rep K w e (.ref b)) (e2 : deref st e = .tup ys) : DWk K (ItzM K a b) w (zipD xs ys) (srcOf d xs) where
  goes := fun i w1 st1 H1 hi l W1 s => by
    obtain ⟨vs, q, r⟩ := src_seq R1 e1 l W1 s
    obtain ⟨us, q2, r2⟩ := tup_seq R2 e2 l W1
    rw [zipD_length] at hi
    exact ⟨vs, us, vs[i]'(by rw [r.length]; omega), us[i]'(by rw [r2.length]; omega), q, q2, List.getElem?_eq_getElem _, List.getElem?_eq_getElem _⟩
  stops := fun w1 st1 H1 l W1 s => by
    obtain ⟨vs, q, r⟩ := src_seq R1 e1 l W1 s
    obtain ⟨us, q2, r2⟩ := tup_seq R2 e2 l W1
    exact ⟨vs, us, q, q2, by rw [zipD_length, r.length]; omega, by rw [zipD_length, r2.length]; omega, by rw [zipD_length, r.length, r2.length]; omega⟩
  yields := fun i w1 st1 H1 v H2 hi l W1 s y => by
    obtain ⟨vs, q, r⟩ := src_seq R1 e1 l W1 s
    obtain ⟨us, q2, r2⟩ := tup_seq R2 e2 l W1
    obtain ⟨T, x, u, rfl, hT, rfl, h1, h2⟩ := y
    obtain ⟨d', g1, g2⟩ := r.getv (h1 vs q)
    obtain ⟨d2, g3, g4⟩ := r2.getv (h2 us q2)
    obtain ⟨w2, l2, W2, R3⟩ := pair_put W1 hT g2 g4
    exact ⟨w2, _, l2, W2, zipD_get _ _ _ _ _ g1 g3, R3⟩
end
def zipMK (kk : DIk) (d : D) : DK := fun e s2 => match deref s2 d, deref s2 e with
  | .lst xs, .tup ys => xs.length ≤ 16777216 → kk (zipD xs ys) (srcOf d xs) s2
  | _, _ => False
def dZipM (t u : DE) : DI := fun env st kk => t env st fun d s1 => u env s1 (zipMK kk d)
section
variable {X : Cx} {e e2 : Expr} {ta tb : DE} {p pos : Pos}
theorem pdi_zipM {elts : List Expr} {k : Nat} {tpos : Pos} (hm : X.mg "zip" = none) (ha : PD X e ta) (hb : PD X e2 tb) (hg : Gl X "zip" := by rfl) (hs : starEach [e, e2] X.env = (false, eval e X.env) :: starEach [e2] X.env := by rfl) (hpl : (backTo pos (starEach [e2] X.env)).any (·.1) = false := by rfl) (hs2 : starEach [e2] X.env = [(false, eval e2 X.env)] := by rfl) :
    PDI X (.Tuple elts k tpos) (.Call (.Name "zip" p) [e, e2] [] pos) (dZipM ta tb) := by
  refine (piZm hg hm (pa_cons ha (pa_cons hb pa_nil hs2) hs) hs hpl).wk fun σ H R ⟨w, env, st, kk, W, E, h, fo⟩ => ?_
  refine ⟨w, env, st, _, W, E, h, fun d st1 v w1 H1 h1 l1 W1 R1 => ⟨w1, env, st1, _, W1, E.mono l1, h1, fun e' st2 u w2 H2 h2 l2 W2 R2 => ?_⟩⟩
  have R1' := Rep.mono l2 _ _ R1
  unfold zipMK at h2
  split at h2
  · rename_i xs ys hd he'
    obtain ⟨a, us, rfl, q1, r1, n1⟩ := rep_lst W2 R1' hd
    obtain ⟨b, zs, rfl, q2, r2, n2⟩ := rep_tup W2 R2 he'
    exact ⟨a, b, us, zs, rfl, q1, q2, fo _ _ _ _ _ _ (h2 (by rw [← r1.length]; exact line_of n1)) (l1.trans l2) W2 (wk_zipM R1' hd R2 he')⟩
  · exact h2.elim
variable {env : DL.Env} {st : Sto} {kk : DIk} {ds es : List D} {i : Nat}
theorem e_zipM : dZipM ta tb env st kk = ta env st fun d s1 => tb env s1 (zipMK kk d) := rfl
theorem e_zipMK : zipMK kk (.lst ds) (.tup es) st = (ds.length ≤ 16777216 → kk (zipD ds es) [] st) := rfl
theorem e_zipMKO {xs : List D} (h : st[i]? = some xs) : zipMK kk (.obj i) (.tup es) st = (xs.length ≤ 16777216 → kk (zipD xs es) [(i, xs)] st) := by simp [zipMK, deref, srcOf, h]
end
end DL

/-! The data layer: what is taken backwards, sorted lists and sets of ints, lists of ranges, divmod, ranges backwards. -/
namespace DLA
open PySem PySem.Spec PyProof.Rows L2 HT
section
variable {prog : Program} {w : World} {A : Around} {E : Value → Shared → Prop} {s : Shared}
theorem back_adjust (n : Nat) : Builtin.Slice.sliceAdjust none none (-1) (n : Int) = ((n : Int) - 1, -1) := by
  unfold Builtin.Slice.sliceAdjust
  simp
theorem back_places (n : Nat) : Builtin.Slice.slicePlaces ((n : Int) - 1) (-1) (-1) = n := by
  unfold Builtin.Slice.slicePlaces
  rw [if_neg (by decide)]
  by_cases h : (n : Int) - 1 > -1
  · rw [if_pos h, show (-(-1) : Int) = 1 by decide, Int.ediv_one]
    omega
  · rw [if_neg h]
    omega
theorem back_pick (its : Array Value) : ((List.range its.size).filterMap fun (k : Nat) => its[((its.size : Int) - 1 + (k : Int) * -1).toNat]?) = its.toList.reverse := by
  have e : (List.range its.size).filterMap (fun (k : Nat) => its[((its.size : Int) - 1 + (k : Int) * -1).toNat]?) = (List.range its.size).filterMap (fun k => its[its.size - 1 - k]?) := by
    congr 1
    funext k
    congr 1
    omega
  rw [e]
  have h2 : (List.range its.size).filterMap (fun k => its[its.size - 1 - k]?) = ((List.range its.size).map fun k => its.size - 1 - k).filterMap (its[·]?) := by
    rw [List.filterMap_map]
    rfl
  rw [h2, PySem.W.krv_range, List.filterMap_reverse, PySem.W.krv_all]
theorem applied_back {sl : Addr} {vl vu vs : Value} {n : Nat} {Q : Int × Int × Nat → Shared → Prop} (hs : s.heap.IsSliceOf sl vl vu vs) (pl : IsPart vl none) (pu : IsPart vu none) (ps : IsPart vs (some (-1)))
    (h : Q ((n : Int) - 1, -1, n) s) : wpAny (model prog w) A (Builtin.Slice.sliceApplied (.ref sl) (pure (n : Int))) Q E s := by
  obtain ⟨os, g1, _, g2⟩ := hs
  cases pl
  cases pu
  cases ps
  unfold Builtin.Slice.sliceApplied Builtin.Slice.sliceFields
  refine wpAny_bind (wpAny_bind (wpAny_field g1 g2 rfl ?_))
  refine wpAny_bind (wpAny_field g1 g2 rfl ?_)
  refine wpAny_bind (wpAny_field g1 g2 rfl (wpAny_pure ?_))
  refine wpAny_bind (slicePart_int ?_)
  show wpAny _ _ (if ((-1 : Int) == 0) = true then _ else _) _ _ s
  rw [if_neg (by decide)]
  refine wpAny_bind (slicePart_none ?_)
  refine wpAny_bind (slicePart_none ?_)
  refine wpAny_bind (wpAny_pure ?_)
  show wpAny _ _ (match Builtin.Slice.sliceAdjust none none (-1) (n : Int) with | (lo, hi) => pure (lo, (-1 : Int), Builtin.Slice.slicePlaces lo hi (-1))) _ _ s
  rw [back_adjust]
  show wpAny _ _ (pure (((n : Int) - 1), (-1 : Int), Builtin.Slice.slicePlaces ((n : Int) - 1) (-1) (-1))) _ _ s
  rw [back_places]
  exact wpAny_pure h
theorem tup_back {t sl : Addr} {its : Array Value} {vl vu vs : Value} {Q : Value → Shared → Prop} (ht : IsTup s.heap t its) (hs : s.heap.IsSliceOf sl vl vu vs) (pl : IsPart vl none) (pu : IsPart vu none) (ps : IsPart vs (some (-1)))
    (h : Q (.ref s.heap.objs.size) { s with heap := s.heap.push { cls := .type "tuple", data := .seq its.toList.reverse.toArray } }) (hz : its.size ≤ sizeLine) : wpAny (model prog w) A (getItem (.ref t) (.ref sl)) Q E s := by
  have small : sizeOk (.seq its.toList.reverse.toArray) := by
    show its.toList.reverse.toArray.size ≤ sizeLine
    rw [List.size_toArray, List.length_reverse, Array.length_toList]
    exact hz
  obtain ⟨os, g1, g3, g2⟩ := id hs
  have sT : s.TypeIs (.ref sl) "slice" := ⟨os, g1, g3⟩
  unfold getItem
  try with_reducible refine wpAny_holding ?_
  try refine wpAny_bind (wpAny_pure ?_)
  refine wpAny_bind (wpAny_sequenceKey ht.typeIs (by decide) ?_)
  have body : wpAny (model prog w) A (call (.builtin "tuple.__getitem__") [.ref t, .ref sl]) Q E s := by
    refine wpAny_call_entry PyProof.Rows.slot_tuple_getitem ht.typeIs entry_tuple_getitem ?_ (args_tuple_getitem _ _)
    show wpAny _ _ (Builtin.Tuple.tupleItemsOf (.ref t) >>= _) _ _ s
    refine wpAny_bind (tupleItemsOf_ ht ?_)
    refine wpAny_bind (wpAny_typeOf sT ?_)
    rw [if_pos (by decide)]
    refine wpAny_bind (applied_back (n := its.size) hs pl pu ps ?_)
    have no : ¬ ((((its.size : Int) - 1) == 0 && (-1 : Int) == 1 && its.size == its.size) = true) := by simp
    show wpAny _ _ (if ((((its.size : Int) - 1) == 0 && (-1 : Int) == 1 && its.size == its.size)) = true then _ else _) _ _ s
    rw [if_neg no, back_pick]
    first
      | exact wpAny_bind (m := Builtin.Tuple.tupleExact _) (wpAny_newObj_type (wpAny_pure ⟨_, rfl, h⟩) small)
      | exact wpAny_bind (m := Builtin.Tuple.tupleExact _) (wpAny_newObj_type (wpAny_bind (wpAny_pure (wpAny_pure ⟨_, rfl, h⟩))) small)
      | exact wpAny_bind (wpAny_bind (m := Builtin.Tuple.tupleExact _) (wpAny_newObj_type (wpAny_pure (wpAny_pure ⟨_, rfl, h⟩)) small))
  refine wpAny_bind (wpAny_callSpecial?_slot (name := Str.ofString "__getitem__") ht.typeIs PyProof.Rows.slot_tuple_getitem ?_)
  first
    | exact body
    | refine wpAny_mono body (fun v s' q => ?_) (fun _ _ q => q)
      exact wpAny_pure q
end
end DLA
namespace DLA
open PySem PySem.Spec PyProof.Rows L2
section
variable {P : Program} {w : World} {A : Around} {E : Value → Shared → Prop} {s : Shared}
/-- a type called whose __init__ asks after its first argument -/
theorem type_called {T nid iid : String} {Bd : Builtin} {xs : List Value} {Q R : Value → Shared → Prop} (tc : TypeCalled T nid iid) (hk : checkTypeCall T ⟨xs, []⟩ = pure ()) (hI : entryFor table iid = some Bd)
    (hN : codeAny (model P w) A.in1 (.call (.builtin nid) ⟨.type T :: xs, []⟩) (wants R E) s)
    (hi : ∀ ob s1, R ob s1 → s1.TypeIs ob T ∧ codeAny (model P w) A.in1 (.call (.builtin iid) ⟨ob :: xs, []⟩) (wants (fun r s2 => r = .none ∧ Q ob s2) E) s1) : wpAny (model P w) A (call (.type T) xs) Q E s := by
  obtain ⟨tc1, tc2, tc3⟩ := tc.mro
  have tc4 := tc.made
  have tc5 := tc.sub
  refine wpAny_call ?_
  refine codeAny_of_tree ?_
  show wpAny _ _ (callAny (.type T) _) _ _ _
  have quiet : (Code.builtin "type.__call__" ⟨.type T :: xs, []⟩).quiet = true := Code.quiet_builtin _ (by decide +kernel)
  refine wpAny_pure ⟨quiet, ?_⟩
  refine codeAny_builtin F.entry_type_call ?_
  rw [Around.under_plain (weight_type_call_type T xs []) rfl]
  have tc6 := tc.notType
  have tc7 := tc.canCreate
  repeat (any_goals (first | assumption | wp_step))
  refine codeAny_mono hN fun r s1 hr => ?_
  match r, hr with
  | .ok (.ret ob), hr =>
    obtain ⟨hT, hi⟩ := hi _ _ hr
    have tc8 := tc.init.lookup
    have tc9 := tc.init.bind ob
    repeat (any_goals (first | assumption | wp_step))
    refine codeAny_mono hi fun r2 s2 hr2 => ?_
    match r2, hr2 with
    | .ok (.ret v), hr2 =>
      obtain ⟨rfl, hq⟩ := hr2
      repeat (any_goals (first | assumption | wp_step))
    | .error e, hr2 => exact hr2
  | .error e, hr => exact hr
/-- set(xs) of a list of ints -/
theorem set_ofList {l : Addr} {its : Array Value} (ns : List Int) {Q : Value → Shared → Prop} (hh : A.handled = none) (hl : s.heap.IsList l its) (hi : IntsAre its.toList ns) (hb : ns.length + 1 < scanBound)
    (h : ∀ (h' : Heap) (tk c : Nat), SetR w h' s.heap.objs.size (fun j => decide (j ∈ ns)) c → c ≤ ns.length → (∀ b o, s.heap.get? b = some o → h'.get? b = some o) → Q (.ref s.heap.objs.size) { s with heap := h', toks := tk }) :
    wpAny (model P w) A (call (.type "set") [.ref l]) Q E s := by
  have hn : its.size = ns.length := by
    have q := hi.length
    rw [Array.length_toList] at q
    exact q
  refine type_called (R := fun ob s1 => ob = .ref s.heap.objs.size ∧ s1 = { s with heap := s.heap.push { cls := .type "set", dict := none, data := .set #[] 0 (.fresh 0 0 (!w.params.followText "set-order")) } })
    F.called_set (F.typeCall_set_1 _) F.entry_set_init (code_set_led1 _ ⟨rfl, rfl⟩) ?_
  rintro ob s1 ⟨rfl, rfl⟩
  obtain ⟨lo, hlo, hlc, ln, hld⟩ := hl
  obtain ⟨c0, d0, x0, sl0⟩ := lo
  simp only at hlc hld
  subst hlc hld
  generalize hob : ({ cls := .type "set", dict := none, data := .set #[] 0 (.fresh 0 0 (!w.params.followText "set-order")) } : Obj) = ob
  have hS : (s.heap.push ob).get? s.heap.objs.size = some ob := Heap.get?_push_size _ (by rw [← hob]; rfl)
  have hlt : l < s.heap.objs.size := Heap.lt_size hlo
  have hl1 : (s.heap.push ob).IsList l its := ⟨_, Heap.get?_push_of_some _ hlo, rfl, ln, rfl⟩
  have hz : (s.heap.push ob).objs.size = s.heap.objs.size + 1 := Heap.size_push ..
  have hT : Shared.TypeIs { s with heap := s.heap.push ob } (.ref s.heap.objs.size) "set" := ⟨_, hS, by rw [← hob]⟩
  refine ⟨hT, codeAny_call_builtin F.called_set.init.plain F.entry_set_init (check_set_init_1 hT ?_)⟩
  have no1 := F.sub_list_set
  have no2 := F.sub_list_frozenset
  have ne : (Value.type "list" == Value.type "dict") = false := by decide
  unfold Builtin.«set.__init__» noKeywords Builtin.Frozenset.updateFrom
  generalize hPI : pyIter = PI
  subst hob
  wp_walk
  subst hPI
  refine wpAny_pyIter_list hl1 ?_
  refine wpAny_bind (wpAny_runValue ?_)
  have fresh : ∀ (ob : Obj), s.heap.objs.size ∉ [(s.heap.push ob).objs.size, l] := fun ob => by
    rw [Heap.size_push]
    simp only [List.mem_cons, List.not_mem_nil, or_false, not_or]
    exact ⟨Nat.ne_of_lt (Nat.lt_succ_self _), Nat.ne_of_gt hlt⟩
  have neI : ∀ (ob : Obj), l ≠ (s.heap.push ob).objs.size := fun ob => by
    rw [Heap.size_push]
    exact Nat.ne_of_lt (Nat.lt_succ_of_lt hlt)
  have got : ∀ (i : Nat) (v : Value), its[i]? = some v → ∃ k t, ns[i]? = some k ∧ v = .int k t := fun i v hv => by
    have lt : i < ns.length := by rw [← hn]; exact (Array.getElem?_eq_some_iff.mp hv).1
    obtain ⟨t, e⟩ := PyProof.Rows.IntsAre.int_at hi i v (by rw [Array.getElem?_toList]; exact hv)
    exact ⟨ns[i], t, List.getElem?_eq_getElem lt, by rw [e, List.getD_eq_getElem?_getD, List.getElem?_eq_getElem lt]; rfl⟩
  have calm3 : A.in1.in1.in1.handled = none := by simp [hh]
  refine set_update_ints ((Walks.list calm3 _ l (neI _) its).toS) s.heap.objs.size (fresh _) ns hn hb got (its.size - 0) 0 _ (by omega) (Nat.zero_le _)
    ⟨⟨_, Heap.get?_push_size _ rfl, rfl, rfl⟩, (hl1.push _)⟩ ⟨0, Nat.le_refl 0, setR_new_at (Heap.get?_push_of_some _ hS)⟩ ?_
  intro s' c' hm hc' hS'
  obtain ⟨h', g2, d', tk', os'⟩ := s'
  have eg : g2 = s.gens := hm.gens
  have ed : d' = s.drawn := hm.drawn
  have eo : os' = s.os := hm.os
  subst eg ed eo
  refine wpAny_pure (wpAny_pure ⟨rfl, h h' tk' c' hS' (by omega) fun b o e => ?_⟩)
  have lt := Heap.lt_size e
  refine hm.heap b o ?_ (Heap.get?_push_of_some _ (Heap.get?_push_of_some _ e))
  rw [Heap.size_push]
  simp only [List.mem_cons, List.not_mem_nil, or_false, not_or]
  exact ⟨Nat.ne_of_lt lt, Nat.ne_of_lt (Nat.lt_succ_of_lt lt)⟩
end
end DLA
namespace DL
open PySem PySem.Spec PyProof.Rows L2
/-! ### sorted ints -/
def sortZ (ns : List Int) : List Int := ns.mergeSort (fun a b => decide (a ≤ b))
theorem sortZ_perm (ns : List Int) : (sortZ ns).Perm ns := List.mergeSort_perm _ _
theorem sortZ_le (ns : List Int) : (sortZ ns).Pairwise (· ≤ ·) := by
  have h := List.pairwise_mergeSort (le := fun a b : Int => decide (a ≤ b)) (fun a b c h1 h2 => by simp only [decide_eq_true_eq] at *; omega) (fun a b => by simp only [Bool.or_eq_true, decide_eq_true_eq]; omega) ns
  exact h.imp fun h => by simpa using h
theorem sorted_one : ∀ {xs ys : List Int}, xs.Perm ys → xs.Pairwise (· ≤ ·) → ys.Pairwise (· ≤ ·) → xs = ys
  | [], ys, p, _, _ => by rw [p.nil_eq]
  | x :: r, [], p, _, _ => by cases p.length_eq
  | x :: r, y :: s, p, h1, h2 => by
    have e : x = y := by
      have a : x ∈ y :: s := p.mem_iff.mp List.mem_cons_self
      have b : y ∈ x :: r := p.mem_iff.mpr List.mem_cons_self
      rcases List.mem_cons.mp a with a | a
      · exact a
      · rcases List.mem_cons.mp b with b | b
        · exact b.symm
        · have c1 := List.rel_of_pairwise_cons h2 a
          have c2 := List.rel_of_pairwise_cons h1 b
          omega
    subst e
    rw [sorted_one ((List.perm_cons _).mp p) h1.of_cons h2.of_cons]
theorem sortZ_of {xs ns : List Int} (p : xs.Perm ns) (h : xs.Pairwise (· ≤ ·)) : xs = sortZ ns := sorted_one (p.trans (sortZ_perm ns).symm) h (sortZ_le ns)
/-- each of them once, rising -/
def setZ (ns : List Int) : List Int := sortZ ns.eraseDups
theorem mem_setZ {ns : List Int} {k : Int} : k ∈ setZ ns ↔ k ∈ ns := by
  unfold setZ
  rw [(sortZ_perm _).mem_iff, List.mem_eraseDups]
theorem lt_one : ∀ {xs ys : List Int}, (∀ k, k ∈ xs ↔ k ∈ ys) → xs.Pairwise (· < ·) → ys.Pairwise (· < ·) → xs = ys
  | [], [], _, _, _ => rfl
  | [], y :: s, h, _, _ => by
    have := (h y).mpr List.mem_cons_self
    cases this
  | x :: r, [], h, _, _ => by
    have := (h x).mp List.mem_cons_self
    cases this
  | x :: r, y :: s, h, h1, h2 => by
    have e : x = y := by
      rcases List.mem_cons.mp ((h x).mp List.mem_cons_self) with a | a
      · exact a
      · rcases List.mem_cons.mp ((h y).mpr List.mem_cons_self) with b | b
        · exact b.symm
        · have c1 := List.rel_of_pairwise_cons h2 a
          have c2 := List.rel_of_pairwise_cons h1 b
          omega
    subst e
    have q : r = s := lt_one (fun k => by
      constructor
      · intro hk
        rcases List.mem_cons.mp ((h k).mp (List.mem_cons_of_mem _ hk)) with a | a
        · have := List.rel_of_pairwise_cons h1 hk
          omega
        · exact a
      · intro hk
        rcases List.mem_cons.mp ((h k).mpr (List.mem_cons_of_mem _ hk)) with a | a
        · have := List.rel_of_pairwise_cons h2 hk
          omega
        · exact a) h1.of_cons h2.of_cons
    rw [q]
theorem nodup_eraseDups (ns : List Int) : ns.eraseDups.Nodup := by
  induction h : ns.length using Nat.strongRecOn generalizing ns with
  | _ n ih =>
    cases ns with
    | nil => simp
    | cons a r =>
      rw [List.eraseDups_cons]
      refine List.nodup_cons.mpr ⟨?_, ?_⟩
      · rw [List.mem_eraseDups]
        simp
      · refine ih (r.filter fun b => !b == a).length ?_ _ rfl
        subst h
        have := List.length_filter_le (fun b => !b == a) r
        simp only [List.length_cons]
        omega
theorem setZ_lt (ns : List Int) : (setZ ns).Pairwise (· < ·) := by
  have h1 := sortZ_le ns.eraseDups
  have h2 : (setZ ns).Nodup := (sortZ_perm _).nodup_iff.mpr (nodup_eraseDups ns)
  unfold setZ at *
  refine (h1.and h2).imp fun ⟨a, b⟩ => ?_
  omega
theorem setZ_of {xs ns : List Int} (h : ∀ k, k ∈ xs ↔ k ∈ ns) (p : xs.Pairwise (· < ·)) : setZ ns = xs := lt_one (fun k => mem_setZ.trans (h k).symm) (setZ_lt ns) p
theorem setZ_id {xs : List Int} (p : xs.Pairwise (· < ·)) : setZ xs = xs := setZ_of (fun _ => Iff.rfl) p
theorem setZ_length_le (ns : List Int) : (setZ ns).length ≤ ns.length := by
  have h2 : (setZ ns).Nodup := (setZ_lt ns).imp fun h => by omega
  exact List.Nodup.length_le_of_subset h2 fun k hk => mem_setZ.mp hk
section
variable {X : Cx} {e e2 e3 : Expr} {ta tb tc : DE} {p p2 pos pos2 : Pos}
def bSorted : FB := fun ds st k => match ds with
  | [d] => match deref st d with
    | .lst xs => match intsD xs with
      | some ns => k (.lst ((sortZ ns).map D.int)) st
      | none => False
    | _ => False
  | _ => False
def bSortedNew : FB := fun ds st k => match ds with
  | [d] => match deref st d with
    | .lst xs => match intsD xs with
      | some ns => k (.obj st.length) (st ++ [(sortZ ns).map D.int])
      | none => False
    | _ => False
  | _ => False
theorem sortZ_length (ns : List Int) : (sortZ ns).length = ns.length := (sortZ_perm ns).length_eq
theorem cb_sorted : CallR X (.builtin "sorted") (rDB X.K bSorted) := by
  refine CallR.by_ fun vs H Q w st ds kk W R q fo => ?_
  unfold bSorted at q
  split at q
  · obtain ⟨v, rfl, R1⟩ := one_rep R
    split at q
    · rename_i hd
      split at q
      · rename_i ns hb
        obtain ⟨a, us, rfl, q1, r1, n⟩ := rep_lst W R1 hd
        rw [intsD_eq hb] at r1
        rw [r1.ints] at q1 n
        refine ⟨_, cr_sortedI, a, ns, rfl, q1, fun ns' p h1 h2 hp => ?_⟩
        rw [sortZ_of h1 h2]
        refine fol_lst W (Reps.of_ints _) ?_ q fo p hp
        rw [List.length_map, sortZ_length]
        rw [List.length_map] at n
        exact n
      · exact q.elim
    · exact q.elim
  · exact q.elim
theorem cb_sortedNew : CallR X (.builtin "sorted") (rDB X.K bSortedNew) := by
  refine CallR.by_ fun vs H Q w st ds kk W R q fo => ?_
  unfold bSortedNew at q
  split at q
  · obtain ⟨v, rfl, R1⟩ := one_rep R
    split at q
    · rename_i hd
      split at q
      · rename_i ns hb
        obtain ⟨a, us, rfl, q1, r1, n⟩ := rep_lst W R1 hd
        rw [intsD_eq hb] at r1
        rw [r1.ints] at q1 n
        refine ⟨_, cr_sortedI, a, ns, rfl, q1, fun ns' p h1 h2 hp => ?_⟩
        rw [sortZ_of h1 h2]
        refine fol_new W (Reps.of_ints _) ?_ q fo p hp
        rw [List.length_map, sortZ_length]
        rw [List.length_map] at n
        exact n
      · exact q.elim
    · exact q.elim
  · exact q.elim
variable {st : Sto} {k : DK} {ns : List Int} {env : DL.Env}
theorem e_sortedL : bSorted [.lst (ns.map D.int)] st k = k (.lst ((sortZ ns).map D.int)) st := by simp only [bSorted, deref, intsD_map]
theorem e_sortedNL : bSortedNew [.lst (ns.map D.int)] st k = k (.obj st.length) (st ++ [(sortZ ns).map D.int]) := by simp only [bSortedNew, deref, intsD_map]
/-! ### divmod -/
def bDivmod : FB := fun ds st k => match ds with
  | [.int i, .int j] => DivOk j ∧ k (.tup [.int (i / j), .int (i % j)]) st
  | _ => False
theorem DivOk.plain {i j : Int} (h : DivOk j) : CDivP i j := by
  refine ⟨h.1, ?_⟩
  have h2 := h.2
  unfold Builtin.divisionGoesByPylong
  have e : ¬ (300 < if j = 0 then 0 else j.natAbs.log2 / 30 + 1) := by
    split <;> omega
  simp
  exact fun q => absurd q e
theorem cb_divmod : CallR X (.builtin "divmod") (rDB X.K bDivmod) := by
  refine CallR.by_ fun vs H Q w st ds kk W R q fo => ?_
  unfold bDivmod at q
  split at q
  · obtain ⟨v, u, rfl, R1, R2⟩ := two_rep R
    simp only [Rep] at R1 R2
    subst R1 R2
    exact ⟨_, call_divmodW, _, _, rfl, q.1.plain, fol_tup W (.cons rep_int (.cons rep_int .nil)) (by show 2 ≤ sizeLine; decide) q.2 fo⟩
  · exact q.elim
theorem e_divmod {i j : Int} : bDivmod [.int i, .int j] st k = (DivOk j ∧ k (.tup [.int (i / j), .int (i % j)]) st) := rfl
/-! ### what is taken backwards -/
end
end DL
namespace DLA
open PySem PySem.Spec PyProof.Rows L2
def tBack (K : PySem.W.Frag) (te : TE) : TE := fun σ H Q => te σ H fun x H1 => ∃ a xs, x = .ref a ∧ ((SqL K H1 a xs ∧ ∀ p, H1 p = none → Q (.ref p) (upd H1 p (.lst xs.reverse))) ∨ (SqT K H1 a xs ∧ ∀ p, H1 p = none → Q (.ref p) (upd H1 p (.tup xs.reverse))))
variable {X : Cx}
theorem pe_back {e : Expr} {te : TE} {k : Nat} {p1 p2 p3 pos : Pos} (he : PE X e te) : PE X (.Subscript e (.Slice none none (some (.UnaryOp .USub (.Constant (.int 1) k p1) p2)) p3) pos) (tBack X.K te) := by
  refine ⟨fun pins s σ H Q I h => ?_⟩
  refine Subscript_ (thn (he.run pins s σ H _ I h) fun v s1 ⟨x, H1, I1, r1, q1⟩ => ?_)
  obtain ⟨a, xs, ex, hx⟩ := q1
  subst ex
  cases r1
  have hst : PO X (some (.UnaryOp .USub (.Constant (.int 1) k p1) p2)) (tPart (tUn (rU fun i => .int (-i)) (tC (.int 1)))) := po_some (pe_un un_neg pe_int)
  refine wpAny_Slice (thn (po_none.run pins s1 σ H1 (fun o G => o = none ∧ G = H1) I1 ⟨rfl, rfl⟩) fun vl s2 ⟨_, _, I2, pl, g1, g2⟩ => ?_)
  subst g1 g2
  refine thn (po_none.run pins s2 σ _ (fun o G => o = none ∧ G = _) I2 ⟨rfl, rfl⟩) fun vu s3 ⟨_, _, I3, pu, g1, g2⟩ => ?_
  subst g1 g2
  refine thn (hst.run pins s3 σ _ (fun o G => o = some (-1) ∧ G = _) I3 ⟨1, rfl, -1, rfl, rfl, rfl⟩) fun vs s4 ⟨_, _, I4, ps, g1, g2⟩ => ?_
  subst g1 g2
  have I5 := I4.kept (h' := s4.heap.push { cls := .type "slice", data := .fields #[vl, vu, vs] }) (t' := s4.toks) fun b ob q => Heap.get?_push_of_some _ q
  have hsl := Heap.IsSliceOf.new s4.heap vl vu vs
  rcases hx with ⟨hx, q⟩ | ⟨hx, q⟩
  · obtain ⟨its, r, ht, hz⟩ := I5.list hx
    have hlen := r.length
    refine tail_any (ops := [.ref a, .ref s4.heap.objs.size]) ht.isList.typeIs (PySem.slot_list_getitem.lookup) ?_ (by with_unfolding_all rfl)
    refine wpAny_getItem_list_slice ht.isList hsl pl pu ps (by decide) ?_ (by rw [List.size_toArray]; omega)
    rw [PySem.W.krv_pick]
    exact ⟨.ref _, _, I5.laid (t' := s4.toks) (o := .lst xs.reverse) (fun b ob q => Heap.get?_push_of_some _ q) (Nat.le_refl _) ⟨by rw [List.length_reverse]; exact hz, _, 0, r.reverse, Heap.get?_push_size _ rfl⟩, rfl, q _ (I5.hok.fresh (Nat.le_refl _))⟩
  · obtain ⟨its, r, ht, hz⟩ := I5.tuple hx
    have hlen := r.length
    refine tail_any (ops := [.ref a, .ref s4.heap.objs.size]) ht.typeIs (PyProof.Rows.slot_tuple_getitem.lookup) ?_ (by with_unfolding_all rfl)
    refine tup_back ht hsl pl pu ps ?_ (by rw [List.size_toArray]; omega)
    exact ⟨.ref _, _, I5.laid (t' := s4.toks) (o := .tup xs.reverse) (fun b ob q => Heap.get?_push_of_some _ q) (Nat.le_refl _) ⟨by rw [List.length_reverse]; exact hz, _, r.reverse, ⟨_, Heap.get?_push_size _ rfl, rfl, 0, rfl⟩⟩, rfl, q _ (I5.hok.fresh (Nat.le_refl _))⟩
/-! ### lists of ranges with a step -/
def PRgC (X : Cx) (e : Expr) (t : L2.St → Hp → (Int → Int → Int → Hp → Prop) → Prop) : Prop :=
  ∀ (pins : List (Addr × Obj)) (s : Shared) (σ : L2.St) (H : Hp) (Q : Int → Int → Int → Hp → Prop), Inv X pins σ H s → t σ H Q →
    wpAny (model X.prog X.w) X.A (eval e X.env) (fun x s' => ∃ r a b c t u v H', x = .ref r ∧ IsRange s'.heap r a b c t u v ∧ Inv X pins σ H' s' ∧ Q a b c H') X.xe s
def tRgC (ta : TA) : L2.St → Hp → (Int → Int → Int → Hp → Prop) → Prop := fun σ H Q => ta σ H fun vs H1 => ∃ i j c, vs = [.int i, .int j, .int c] ∧ c ≠ 0 ∧ c.natAbs < 1073741824 ∧ Q i j c H1
theorem prg_3 {a b c : Expr} {ta : TA} {p pos : Pos} (hg : Gl X "range") (hm : X.mg "range" = none) (ha : PA X [a, b, c] ta)
    (hs : starEach [a, b, c] X.env = (false, eval a X.env) :: starEach [b, c] X.env := by rfl) (hpl : (backTo pos (starEach [b, c] X.env)).any (·.1) = false := by rfl) : PRgC X (.Call (.Name "range" p) [a, b, c] [] pos) (tRgC ta) := by
  intro pins s σ H Q I h
  refine Call_ (ld_blt I hg hm boot_range (PyProof.Rows.callWith_type1 (thn (ha.run pos pins s σ H _ I h) fun us s1 ⟨vs, H1, I1, r1, q1⟩ => ?_) hs hpl))
  obtain ⟨i, j, k, e, c0, c1, q⟩ := q1
  subst e
  cases r1 with
  | cons g1 rr =>
    cases rr with
    | cons g2 rr =>
      cases rr with
      | cons g3 rr =>
        cases rr
        obtain ⟨t, rfl⟩ := g1
        obtain ⟨t', rfl⟩ := g2
        obtain ⟨t'', rfl⟩ := g3
        exact call_range_3 c0 ⟨_, i, j, k, _, _, _, H1, rfl, IsRange.new _ _ _ _ _ _ _, I1.kept (t' := s1.toks) fun b o e => Heap.get?_push_of_some _ e, q⟩ (.inl (PyProof.noPylong_small c1))
def rgC (a c : Int) (n : Nat) : List V := (List.range n).map fun i => V.int (a + (i : Nat) * c)
theorem vals_rgC {a c : Int} {n : Nat} {acc : Array Value} (h : ItemsOf (fun i v => ∃ t, v = .int (a + i * c) t) acc n) : Vals (rgC a c n) acc.toList := by
  have e : acc.toList.length = n := by rw [Array.length_toList]; exact h.1
  unfold rgC
  rw [← e]
  refine vals_of_get acc.toList _ fun j u hj => ?_
  obtain ⟨t, rfl⟩ := h.2 j u (by rw [← hj, Array.getElem?_toList])
  exact ⟨t, rfl⟩
def tLstRgC (te : L2.St → Hp → (Int → Int → Int → Hp → Prop) → Prop) : TE := fun σ H Q => te σ H fun a b c H1 => ∃ n, Builtin.Range.small a b c = true ∧ Builtin.Range.rangeSize a b c = (n : Nat) ∧ n ≤ 2 ^ 24 ∧ ∀ q, H1 q = none → Q (.ref q) (upd H1 q (.lst (rgC a c n)))
theorem pe_listRgC {e : Expr} {te : L2.St → Hp → (Int → Int → Int → Hp → Prop) → Prop} {p pos : Pos} (hc : X.calm = true) (hg : Gl X "list") (hm : X.mg "list" = none) (he : PRgC X e te) (na : starEach [e] X.env = (false, eval e X.env) :: starEach [] X.env := by rfl) :
    PE X (.Call (.Name "list" p) [e] [] pos) (tLstRgC te) := by
  refine ⟨fun pins s σ H Q I h => ?_⟩
  refine Call_ (ld_blt I hg hm boot_list (PyProof.Rows.callWith_type1 (args_cons (thn (he pins s σ H _ I h) fun x s1 ⟨r, a, b, c, t, u, v, H1, ex, hr, I1, n, b1, b2, b3, q⟩ => args_nil ?_) na) na))
  subst ex
  refine call_list_range (I1.ok.hd hc) hr b1 b2 b3 fun h' tk acc c' hk e' hi => ?_
  have hl : (rgC a c n).length ≤ sizeLine := by
    unfold rgC
    rw [List.length_map, List.length_range, sizeLine_eq]
    omega
  exact ⟨.ref s1.heap.objs.size, _, I1.laid (o := .lst (rgC a c n)) hk (Nat.le_refl _) ⟨hl, acc.toList, c', vals_rgC hi, by rw [Array.toArray_toList]; exact e'⟩, rfl, q _ (I1.hok.fresh (Nat.le_refl _))⟩
end DLA
namespace DL
open PySem PySem.Spec PyProof.Rows L2
section
variable {X : Cx} {tg e e2 e3 : Expr} {ta tb tc : DE} {p p2 pos pos2 : Pos}
def backK (k : DK) : DK := fun d s1 => match deref s1 d with
  | .lst xs => k (.lst xs.reverse) s1
  | .tup xs => k (.tup xs.reverse) s1
  | _ => False
def dBack (t : DE) : DE := fun env st k => t env st (backK k)
theorem pd_back {j : Nat} {p1 p2 p3 : Pos} (ha : PD X e ta) : PD X (.Subscript e (.Slice none none (some (.UnaryOp .USub (.Constant (.int 1) j p1) p2)) p3) pos) (dBack ta) := by
  refine (DLA.pe_back ha).wk fun σ H Q ⟨w, env, st, kk, W, E, h, fo⟩ => ?_
  refine ⟨w, env, st, _, W, E, h, fun d st1 v w1 H1 h1 l1 W1 R1 => ?_⟩
  unfold backK at h1
  split at h1
  · rename_i xs hd
    obtain ⟨a, vs, rfl, q, r, n⟩ := rep_lst W1 R1 hd
    exact ⟨a, vs, rfl, .inl ⟨q, fol_lst W1 r.rev (by rw [List.length_reverse]; exact n) h1 (fo.le l1)⟩⟩
  · rename_i xs hd
    obtain ⟨a, vs, rfl, q, r, n⟩ := rep_tup W1 R1 hd
    exact ⟨a, vs, rfl, .inr ⟨q, fol_tup W1 r.rev (by rw [List.length_reverse]; exact n) h1 (fo.le l1)⟩⟩
  · exact h1.elim
variable {env : DL.Env} {st : Sto} {k : DK} {kk : DIk} {i j c : Int} {xs : List D} {ns : List Int}
theorem e_back : dBack ta env st k = ta env st (backK k) := rfl
theorem e_backL : backK k (.lst xs) st = k (.lst xs.reverse) st := rfl
theorem e_backT : backK k (.tup xs) st = k (.tup xs.reverse) st := rfl
theorem e_backO {i : Nat} (h : st[i]? = some xs) : backK k (.obj i) st = k (.lst xs.reverse) st := by simp [backK, deref, h]
/-! ### list(range(..)) -/
theorem reps_range {K : PySem.W.Frag} {w : Wd} (a : Int) (n : Nat) : Reps K w (rangeD a n) ((List.range n).map fun i => V.int (a + (i : Nat))) := by
  have h := Reps.of_ints (K := K) (w := w) ((List.range n).map fun i => a + ((i : Nat) : Int))
  rw [List.map_map, List.map_map] at h
  exact h
theorem reps_step {K : PySem.W.Frag} {w : Wd} (a c : Int) (n : Nat) : Reps K w (stepD a c n) (DLA.rgC a c n) := by
  have h := Reps.of_ints (K := K) (w := w) ((List.range n).map fun i => a + ((i : Nat) : Int) * c)
  rw [List.map_map, List.map_map] at h
  exact h
def lr1K (k : DK) : DK := fun d s1 => match d with
  | .int j => RgOk 0 j ∧ k (.lst (rangeD 0 j.toNat)) s1
  | _ => False
def dLR1 (t : DE) : DE := fun env st k => t env st (lr1K k)
theorem pd_listR1 (hc : X.calm = true) (hm : X.mg "list" = none) (hm2 : X.mg "range" = none) (ha : PD X e ta) (hg : Gl X "list" := by rfl) (hg2 : Gl X "range" := by rfl) (na : starEach [e] X.env = (false, eval e X.env) :: starEach [] X.env := by rfl)
    (nb : starEach [.Call (.Name "range" p2) [e] [] pos2] X.env = (false, eval (.Call (.Name "range" p2) [e] [] pos2) X.env) :: starEach [] X.env := by rfl) : PD X (.Call (.Name "list" p) [.Call (.Name "range" p2) [e] [] pos2] [] pos) (dLR1 ta) := by
  refine (pe_listRg hc hg hm (prg_1 hg2 hm2 ha na) nb).wk fun σ H Q ⟨w, env, st, kk, W, E, h, fo⟩ => ?_
  refine ⟨w, env, st, _, W, E, h, fun d st1 v w1 H1 h1 l1 W1 R1 => ?_⟩
  unfold lr1K at h1
  split at h1
  · rename_i j
    simp only [Rep] at R1
    subst R1
    refine ⟨j, rfl, h1.1, fol_lst W1 ?_ ?_ h1.2 (fo.le l1)⟩
    · unfold rgV
      rw [show (j - 0).toNat = j.toNat by rw [Int.sub_zero]]
      exact reps_range 0 j.toNat
    · rw [rgV_length]
      exact line16 (by have := h1.1.2.2.2.2; omega)
  · exact h1.elim
def lr2K (k : DK) (d : D) : DK := fun e s2 => match d, e with
  | .int i, .int j => RgOk i j ∧ k (.lst (rangeD i (j - i).toNat)) s2
  | _, _ => False
def dLR2 (t u : DE) : DE := fun env st k => t env st fun d s1 => u env s1 (lr2K k d)
theorem pd_listR2 (hc : X.calm = true) (hm : X.mg "list" = none) (hm2 : X.mg "range" = none) (ha : PD X e ta) (hb : PD X e2 tb) (hg : Gl X "list" := by rfl) (hg2 : Gl X "range" := by rfl) (na : starEach [e, e2] X.env = (false, eval e X.env) :: starEach [e2] X.env := by rfl)
    (na2 : starEach [e2] X.env = (false, eval e2 X.env) :: starEach [] X.env := by rfl) (hp : (backTo pos2 (starEach [e2] X.env)).any (·.1) = false := by rfl)
    (nb : starEach [.Call (.Name "range" p2) [e, e2] [] pos2] X.env = (false, eval (.Call (.Name "range" p2) [e, e2] [] pos2) X.env) :: starEach [] X.env := by rfl) : PD X (.Call (.Name "list" p) [.Call (.Name "range" p2) [e, e2] [] pos2] [] pos) (dLR2 ta tb) := by
  refine (pe_listRg hc hg hm (prg_2 hg2 hm2 ha hb na na2 hp) nb).wk fun σ H Q ⟨w, env, st, kk, W, E, h, fo⟩ => ?_
  refine ⟨w, env, st, _, W, E, h, fun d st1 v w1 H1 h1 l1 W1 R1 => ⟨w1, env, st1, _, W1, E.mono l1, h1, fun e' st2 u w2 H2 h2 l2 W2 R2 => ?_⟩⟩
  unfold lr2K at h2
  split at h2
  · rename_i i j
    simp only [Rep] at R1 R2
    subst R1 R2
    refine ⟨i, j, rfl, rfl, h2.1, fol_lst W2 (reps_range i (j - i).toNat) ?_ h2.2 (fo.le (l1.trans l2))⟩
    rw [rgV_length]
    exact line16 (by have := h2.1.2.2.2.2; omega)
  · exact h2.elim
def lr3K (k : DK) (d e : D) : DK := fun f s3 => match d, e, f with
  | .int i, .int j, .int c => ∃ n, RgC i j c n ∧ n ≤ 2 ^ 24 ∧ k (.lst (stepD i c n)) s3
  | _, _, _ => False
def dLR3 (t u v : DE) : DE := fun env st k => t env st fun d s1 => u env s1 fun e s2 => v env s2 (lr3K k d e)
theorem pd_listR3 (hc : X.calm = true) (hm : X.mg "list" = none) (hm2 : X.mg "range" = none) (ha : PD X e ta) (hb : PD X e2 tb) (hd : PD X e3 tc) (hg : Gl X "list" := by rfl) (hg2 : Gl X "range" := by rfl) (hs : starEach [e, e2, e3] X.env = (false, eval e X.env) :: starEach [e2, e3] X.env := by rfl)
    (hpl : (backTo pos2 (starEach [e2, e3] X.env)).any (·.1) = false := by rfl) (hs2 : starEach [e2, e3] X.env = (false, eval e2 X.env) :: starEach [e3] X.env := by rfl) (hs3 : starEach [e3] X.env = [(false, eval e3 X.env)] := by rfl)
    (nb : starEach [.Call (.Name "range" p2) [e, e2, e3] [] pos2] X.env = (false, eval (.Call (.Name "range" p2) [e, e2, e3] [] pos2) X.env) :: starEach [] X.env := by rfl) : PD X (.Call (.Name "list" p) [.Call (.Name "range" p2) [e, e2, e3] [] pos2] [] pos) (dLR3 ta tb tc) := by
  refine (DLA.pe_listRgC hc hg hm (DLA.prg_3 hg2 hm2 (pa_cons ha (pa_cons hb (pa_cons hd pa_nil hs3) hs2) hs) hs hpl) nb).wk fun σ H Q ⟨w, env, st, kk, W, E, h, fo⟩ => ?_
  refine ⟨w, env, st, _, W, E, h, fun d st1 v w1 H1 h1 l1 W1 R1 => ⟨w1, env, st1, _, W1, E.mono l1, h1, fun e' st2 u w2 H2 h2 l2 W2 R2 => ⟨w2, env, st2, _, W2, (E.mono l1).mono l2, h2, fun f' st3 x w3 H3 h3 l3 W3 R3 => ?_⟩⟩⟩
  unfold lr3K at h3
  split at h3
  · rename_i i j c
    simp only [Rep] at R1 R2 R3
    subst R1 R2 R3
    obtain ⟨n, hn, hz, h3⟩ := h3
    refine ⟨i, j, c, rfl, hn.1, hn.2.1, n, hn.2.2.1, hn.2.2.2, hz, fol_lst W3 (reps_step i c n) ?_ h3 (fo.le ((l1.trans l2).trans l3))⟩
    unfold DLA.rgC
    rw [List.length_map, List.length_range]
    exact line16 hz
  · exact h3.elim
theorem e_lr1 : dLR1 ta env st k = ta env st (lr1K k) := rfl
theorem e_lr1K : lr1K k (.int j) st = (RgOk 0 j ∧ k (.lst (rangeD 0 j.toNat)) st) := rfl
theorem e_lr2 : dLR2 ta tb env st k = ta env st fun d s1 => tb env s1 (lr2K k d) := rfl
theorem e_lr2K : lr2K k (.int i) (.int j) st = (RgOk i j ∧ k (.lst (rangeD i (j - i).toNat)) st) := rfl
theorem e_lr3 : dLR3 ta tb tc env st k = ta env st fun d s1 => tb env s1 fun e s2 => tc env s2 (lr3K k d e) := rfl
theorem e_lr3K : lr3K k (.int i) (.int j) (.int c) st = ∃ n, RgC i j c n ∧ n ≤ 2 ^ 24 ∧ k (.lst (stepD i c n)) st := rfl
/-! ### reversed(range(n)) -/
def rv1K (kk : DIk) : DK := fun d s1 => match d with
  | .int j => (-(2 ^ 62) ≤ j ∧ j < 2 ^ 62) ∧ kk (stepD ((j.toNat : Int) - 1) (-1) j.toNat) [] s1
  | _ => False
def dRevR1 (t : DE) : DI := fun env st kk => t env st (rv1K kk)
theorem pdi_revR1 (hm : X.mg "reversed" = none) (hm2 : X.mg "range" = none) (ha : PD X e ta) (hg : Gl X "reversed" := by rfl) (hg2 : Gl X "range" := by rfl) (na : starEach [e] X.env = (false, eval e X.env) :: starEach [] X.env := by rfl)
    (nb : starEach [.Call (.Name "range" p2) [e] [] pos2] X.env = (false, eval (.Call (.Name "range" p2) [e] [] pos2) X.env) :: starEach [] X.env := by rfl) : PDI X tg (.Call (.Name "reversed" p) [.Call (.Name "range" p2) [e] [] pos2] [] pos) (dRevR1 ta) := by
  refine (pi_revR hg hm (prg_1 hg2 hm2 ha na) nb).wk fun σ H R ⟨w, env, st, kk, W, E, h, fo⟩ => ?_
  refine ⟨w, env, st, _, W, E, h, fun d st1 v w1 H1 h1 l1 W1 R1 => ?_⟩
  unfold rv1K at h1
  split at h1
  · rename_i j
    simp only [Rep] at R1
    subst R1
    refine ⟨j, rfl, by decide, by decide, h1.1.1, h1.1.2, ?_⟩
    rw [show (j - 0).toNat = j.toNat by rw [Int.sub_zero], Int.zero_add]
    exact fo _ _ _ _ _ _ h1.2 l1 W1 wk_step
  · exact h1.elim
theorem e_revR1 : dRevR1 ta env st kk = ta env st (rv1K kk) := rfl
theorem e_revR1K : rv1K kk (.int j) st = ((-(2 ^ 62) ≤ j ∧ j < 2 ^ 62) ∧ kk (stepD ((j.toNat : Int) - 1) (-1) j.toNat) [] st) := rfl
/-! ### sorted(set(xs)), len(set(xs)) of a list of ints -/
def rSetL (K : PySem.W.Frag) (w : World) : List V → Hp → VK → Prop := fun vs H Q => ∃ (a : Addr) (ns : List Int), vs = [V.ref a] ∧ SqL K H a (ns.map V.int) ∧ ns.length + 1 < scanBound ∧
  ∀ p, H p = none → Q (.ref p) (upd H p (SetO w p (fun j => decide (j ∈ ns)) (setZ ns).length))
theorem cr_setL (hc : X.calm = true) : CallR X (.type "set") (rSetL X.K X.w) := by
  intro pins s σ H vs us Q I r h
  obtain ⟨a, ns, rfl, hs, hb, q⟩ := h
  obtain ⟨its, rv, hl, hz⟩ := I.list hs
  rw [Vals.ref1 r]
  refine DLA.set_ofList ns (I.ok.hd hc) hl.isList (by simpa using rv.ints) hb fun h' tk c hS hc' hk => ?_
  have ec : c = (setZ ns).length := by
    obtain ⟨o, es, ep, t, _, _, _, _, nd, hm, _, _, en, _⟩ := hS
    have h2 : (setZ ns).Nodup := (setZ_lt ns).imp fun h => by omega
    have e1 : (es.toList.map keyOf).length = c := by rw [List.length_map, Array.length_toList, en]
    have l1 := List.Nodup.length_le_of_subset h2 (l₂ := es.toList.map keyOf) fun k hk => (hm k).mp (by rw [decide_eq_true_eq]; exact mem_setZ.mp hk)
    have l2 := List.Nodup.length_le_of_subset nd (l₂ := setZ ns) fun k hk => mem_setZ.mpr (by have := (hm k).mpr hk; rwa [decide_eq_true_eq] at this)
    omega
  subst ec
  exact ⟨.ref _, _, I.laid (t' := tk) (o := SetO X.w s.heap.objs.size (fun j => decide (j ∈ ns)) (setZ ns).length) hk (Nat.le_refl _) (setO_new hS), rfl, q _ (I.hok.fresh (Nat.le_refl _))⟩
def srtSetK (k : DK) : DK := fun d s1 => match deref s1 d with
  | .lst xs => match intsD xs with
    | some ns => ns.length < 4000 ∧ (setZ ns).length < 64 ∧ k (.lst ((setZ ns).map D.int)) s1
    | none => False
  | _ => False
def dSrtSet (t : DE) : DE := fun env st k => t env st (srtSetK k)
theorem pd_srtSet (hc : X.calm = true) (hm : X.mg "sorted" = none) (hm2 : X.mg "set" = none) (hv : bootBuiltins "sorted" = some (.builtin "sorted")) (hv2 : bootBuiltins "set" = some (.type "set")) (ha : PD X e ta) (hg : Gl X "sorted" := by rfl) (hg2 : Gl X "set" := by rfl)
    (na : starEach [e] X.env = (false, eval e X.env) :: starEach [] X.env := by rfl) (nb : starEach [.Call (.Name "set" p2) [e] [] pos2] X.env = (false, eval (.Call (.Name "set" p2) [e] [] pos2) X.env) :: starEach [] X.env := by rfl) :
    PD X (.Call (.Name "sorted" p) [.Call (.Name "set" p2) [e] [] pos2] [] pos) (dSrtSet ta) := by
  have hs := pe_callTy (pos := pos2) (p := p2) (cr_setL hc) hg2 hm2 hv2 (pa_cons ha pa_nil na) (by decide) (by decide) na (by rfl)
  refine (pe_callB (pos := pos) (p := p) (cr_sortedSet hc) hg hm hv (pa_cons hs pa_nil nb) (by decide) (by decide) nb (by rfl)).wk fun σ H Q ⟨w, env, st, kk, W, E, h, fo⟩ => ?_
  refine ⟨w, env, st, _, W, E, h, fun d st1 v w1 H1 h1 l1 W1 R1 => ?_⟩
  unfold srtSetK at h1
  split at h1
  · rename_i hd
    split at h1
    · rename_i ns hb
      obtain ⟨a, us, rfl, q1, r1, n⟩ := rep_lst W1 R1 hd
      rw [intsD_eq hb] at r1
      rw [r1.ints] at q1
      obtain ⟨z1, z2, h1⟩ := h1
      refine ⟨a, ns, rfl, q1, by unfold scanBound; omega, fun p hp => ⟨p, _, _, rfl, upd_same, z2, fun ns' p' g1 g2 g3 hp' => ?_⟩⟩
      have e : ns' = setZ ns := (setZ_of (fun k => by rw [g2 k, decide_eq_true_eq]) g1).symm
      subst e
      have l2 := Le.put (w := w1) (o := SetO X.w p (fun j => decide (j ∈ ns)) (setZ ns).length) (W1.free hp)
      exact fol_lst (W1.put hp (o := SetO X.w p (fun j => decide (j ∈ ns)) (setZ ns).length) trivial) (Reps.of_ints _) (by rw [List.length_map, sizeLine_eq]; omega) h1 (fo.le (l1.trans l2)) p' hp'
    · exact h1.elim
  · exact h1.elim
theorem e_srtSet : dSrtSet ta env st k = ta env st (srtSetK k) := rfl
theorem e_srtSetL : srtSetK k (.lst (ns.map D.int)) st = (ns.length < 4000 ∧ (setZ ns).length < 64 ∧ k (.lst ((setZ ns).map D.int)) st) := by simp only [srtSetK, deref, intsD_map]
end
end DL

/-! Loops by an invariant, comprehensions by what each turn tells, the tape of draws. -/
namespace DL
open PySem PySem.Spec PyProof.Rows L2
theorem set_same {st : Sto} {i : Nat} {xs : List D} (h : st[i]? = some xs) : st.set i xs = st := by
  obtain ⟨hi, e⟩ := List.getElem?_eq_some_iff.mp h
  rw [← e]
  exact List.set_getElem_self ..
def Tape (n : Nat) (xs : List D) : Prop := ∃ a b c : Int, xs = [.int a, .int b, .int c] ∧ 0 ≤ b ∧ b < 4611686018427387904 ∧ 0 ≤ c ∧ c ≤ n
def Tp (i n : Nat) (st : Sto) : Prop := ∃ xs, st[i]? = some xs ∧ Tape n xs
theorem Tp.mono {i n m : Nat} {st : Sto} (h : Tp i n st) (l : n ≤ m) : Tp i m st := by
  obtain ⟨xs, e, a, b, c, r, h1, h2, h3, h4⟩ := h
  exact ⟨xs, e, a, b, c, r, h1, h2, h3, by omega⟩
theorem Tp.app {i n : Nat} {st : Sto} (h : Tp i n st) (ys : Sto) : Tp i n (st ++ ys) := by
  obtain ⟨xs, e, t⟩ := h
  exact ⟨xs, by rw [List.getElem?_append_left (List.getElem?_eq_some_iff.mp e).1]; exact e, t⟩
theorem Tp.set {i n j : Nat} {st : Sto} (h : Tp i n st) (ys : List D) (ne : j ≠ i) : Tp i n (st.set j ys) := by
  obtain ⟨xs, e, t⟩ := h
  exact ⟨xs, by rw [List.getElem?_set_ne ne]; exact e, t⟩
theorem Tp.lt {i n : Nat} {st : Sto} (h : Tp i n st) : i < st.length := by
  obtain ⟨xs, e, _⟩ := h
  exact (List.getElem?_eq_some_iff.mp e).1
theorem Tp.same {i n : Nat} {st : Sto} (h : Tp i n st) : ∃ xs, st.set i xs = st := by
  obtain ⟨xs, e, _⟩ := h
  exact ⟨xs, set_same e⟩
section
variable {α β : Type} {src : List (Nat × List D)} {g : DG} {b : DS} {e : DE} {tt : DT} {own : List Nat} {env : DL.Env} {kk : DL.Env → Sto → Prop} {rt : DK} {k : List D → Sto → Prop}
/-- a loop by an invariant over what is left -/
theorem go_for (f : α → D) (I : List α → DL.Env → Sto → Prop)
    (step : ∀ x r env st (nx : DL.Env → Sto → Prop), I (x :: r) env st → (∀ e s, I r e s → nx e s) → SrcOk src st ∧ g (f x) env st fun e s => b ⟨nx, rt⟩ e s)
    (done : ∀ env st, I [] env st → SrcOk src st ∧ kk env st) : ∀ xs env st, I xs env st → goFor src g b ⟨kk, rt⟩ (xs.map f) env st
  | [], env, st, h => done env st h
  | x :: r, env, st, h => step x r env st _ h fun e s q => go_for f I step done r e s q
theorem go_forD (I : List D → DL.Env → Sto → Prop)
    (step : ∀ x r env st (nx : DL.Env → Sto → Prop), I (x :: r) env st → (∀ e s, I r e s → nx e s) → SrcOk src st ∧ g x env st fun e s => b ⟨nx, rt⟩ e s)
    (done : ∀ env st, I [] env st → SrcOk src st ∧ kk env st) (xs : List D) (env : DL.Env) (st : Sto) (h : I xs env st) : goFor src g b ⟨kk, rt⟩ xs env st := by
  have := go_for (f := id) (src := src) (g := g) (b := b) (rt := rt) (kk := kk) I step done xs env st h
  rwa [List.map_id] at this
/-- a loop over 0, 1, .. by an invariant -/
theorem go_range (n : Nat) (I : Nat → DL.Env → Sto → Prop)
    (step : ∀ j env st (nx : DL.Env → Sto → Prop), j < n → I j env st → (∀ e s, I (j + 1) e s → nx e s) → SrcOk src st ∧ g (.int (j : Nat)) env st fun e s => b ⟨nx, rt⟩ e s)
    (done : ∀ env st, I n env st → SrcOk src st ∧ kk env st) (env : DL.Env) (st : Sto) (h : I 0 env st) : goFor src g b ⟨kk, rt⟩ (rangeD 0 n) env st := by
  have e : rangeD 0 n = (List.range n).map fun i => D.int (i : Nat) := by
    unfold rangeD
    refine List.map_congr_left fun x _ => ?_
    rw [Int.zero_add]
  rw [e]
  refine go_for (fun i : Nat => D.int (i : Nat)) (fun r env st => ∃ j, r = (List.range n).drop j ∧ j ≤ n ∧ I j env st) ?_ ?_ _ env st ⟨0, rfl, Nat.zero_le _, h⟩
  · rintro x r env st nx ⟨j, hr, hj, hI⟩ q
    have lt : j < n := by
      apply Nat.lt_of_not_le
      intro z
      rw [List.drop_eq_nil_of_le (by rw [List.length_range]; exact z)] at hr
      cases hr
    have hd := List.drop_eq_getElem_cons (l := List.range n) (i := j) (by rw [List.length_range]; exact lt)
    rw [hd] at hr
    injection hr with h1 h2
    rw [List.getElem_range] at h1
    subst h1
    exact step x env st nx lt hI fun e s hi => q e s ⟨x + 1, h2, lt, hi⟩
  · rintro env st ⟨j, hr, hj, hI⟩
    have : j = n := by
      have := congrArg List.length hr
      rw [List.length_nil, List.length_drop, List.length_range] at this
      omega
    subst this
    exact done env st hI
/-- a while by an invariant with a measure -/
theorem go_while {c : DT} {E : DEnds} {env : DL.Env} {st : Sto} (I : Nat → DL.Env → Sto → Prop) (m : Nat) (h : I m env st)
    (step : ∀ m env st, I m env st → c env st fun q s1 => if q = true then b ⟨fun e s => ∃ m', m' < m ∧ I m' e s, E.rt⟩ env s1 else E.nx env s1) :
    (∃ I : Nat → DL.Env → Sto → Prop, (∃ m, I m env st) ∧ ∀ m env st, I m env st → c env st fun q s1 => if q = true then b ⟨fun e s => ∃ m', m' < m ∧ I m' e s, E.rt⟩ env s1 else E.nx env s1) := ⟨I, ⟨m, h⟩, step⟩
/-- each turn tells one thing, the store stays -/
theorem lc_eachD (st : Sto) (hs : SrcOk src st) : ∀ (xs ys acc : List D), xs.length = ys.length → (∀ x y, (x, y) ∈ xs.zip ys → ∀ kd : DK, kd y st → g x (wipeE env own) st fun e1 s1 => e e1 s1 kd) → k (acc ++ ys) st → goLc src g dYes e own env k xs acc st
  | [], [], acc, _, _, h => ⟨hs, by simpa using h⟩
  | [], _ :: _, _, q, _, _ => by cases q
  | _ :: _, [], _, q, _, _ => by cases q
  | x :: xs, y :: ys, acc, q, f, h => by
    refine ⟨hs, ?_⟩
    refine f x y (by simp) (fun d s2 => goLc src g dYes e own env k xs (acc ++ [d]) s2) ?_
    refine lc_eachD st hs xs ys (acc ++ [y]) (by simpa using q) (fun a b m => f a b (by simp [m])) ?_
    rw [List.append_assoc]
    exact h
theorem lc_map (f h : α → D) (xs : List α) (st : Sto) (hs : SrcOk src st) (acc : List D) (step : ∀ x ∈ xs, ∀ kd : DK, kd (h x) st → g (f x) (wipeE env own) st fun e1 s1 => e e1 s1 kd) (q : k (acc ++ xs.map h) st) : goLc src g dYes e own env k (xs.map f) acc st := by
  refine lc_eachD st hs _ _ _ (by rw [List.length_map, List.length_map]) (fun x y m kd hk => ?_) q
  rw [List.zip_map'] at m
  obtain ⟨a, ha, e⟩ := List.mem_map.mp m
  cases e
  exact step a ha kd hk
theorem lc_mapM (f : α → D) (m : α → β) (h : β → D) (xs : List α) (st : Sto) (hs : SrcOk src st) (acc : List D) (step : ∀ x ∈ xs, ∀ kd : DK, kd (h (m x)) st → g (f x) (wipeE env own) st fun e1 s1 => e e1 s1 kd) (q : k (acc ++ (xs.map m).map h) st) : goLc src g dYes e own env k (xs.map f) acc st := by
  rw [List.map_map] at q
  exact lc_map f _ xs st hs acc step q
theorem lc_filter (f h : α → D) (p : α → Bool) (st : Sto) (hs : SrcOk src st) : ∀ (xs : List α) (acc : List D), (∀ x ∈ xs, ∀ (k1 : DK) (k2 : Sto → Prop), (p x = true → k1 (h x) st) → (p x = false → k2 st) → g (f x) (wipeE env own) st fun e1 s1 => tt e1 s1 fun b s2 => if b = true then e e1 s2 k1 else k2 s2) →
    k (acc ++ (xs.filter p).map h) st → goLc src g tt e own env k (xs.map f) acc st
  | [], acc, _, q => ⟨hs, by simpa using q⟩
  | x :: xs, acc, step, q => by
    refine ⟨hs, ?_⟩
    refine step x List.mem_cons_self (fun d s2 => goLc src g tt e own env k (xs.map f) (acc ++ [d]) s2) (fun s2 => goLc src g tt e own env k (xs.map f) acc s2) (fun hp => ?_) (fun hp => ?_)
    · refine lc_filter f h p st hs xs _ (fun y hy => step y (List.mem_cons_of_mem _ hy)) ?_
      rw [List.filter_cons, if_pos hp, List.map_cons] at q
      rw [List.append_assoc]
      exact q
    · refine lc_filter f h p st hs xs _ (fun y hy => step y (List.mem_cons_of_mem _ hy)) ?_
      rw [List.filter_cons, if_neg (by simp [hp])] at q
      exact q
/-- each turn draws -/
theorem lc_draws (f : α → D) (P : α → Prop) (i c B : Nat) (step : ∀ x n st (kd : DK), Tp i n st → n < B → (∀ a ys, P a → Tp i (n + c) (st.set i ys) → kd (f a) (st.set i ys)) → g x (wipeE env own) st fun e1 s1 => e e1 s1 kd) :
    ∀ (xs : List D) (n : Nat) (st : Sto) (acc : List D), Tp i n st → n + c * xs.length < B →
    (∀ (as : List α) ys, as.length = xs.length → (∀ a ∈ as, P a) → Tp i (n + c * xs.length) (st.set i ys) → k (acc ++ as.map f) (st.set i ys)) → goLc [] g dYes e own env k xs acc st
  | [], n, st, acc, ht, _, h => by
    obtain ⟨xs, hx, hT⟩ := id ht
    have q := set_same hx
    refine ⟨trivial, ?_⟩
    have := h [] xs rfl (fun _ m => by cases m) (by rw [q]; exact ht)
    rw [q] at this
    simpa using this
  | x :: r, n, st, acc, ht, hn, h => by
    simp only [List.length_cons, Nat.mul_add] at hn
    refine ⟨trivial, ?_⟩
    refine step x n st (fun d s2 => goLc [] g dYes e own env k r (acc ++ [d]) s2) ht (by omega) fun a ys ha t => ?_
    refine lc_draws f P i c B step r (n + c) _ _ t (by omega) fun as zs hl hp t' => ?_
    rw [List.set_set] at t' ⊢
    rw [List.append_assoc]
    refine h (a :: as) zs (by simp [hl]) (fun y hy => ?_) (t'.mono ?_)
    · rcases List.mem_cons.mp hy with rfl | hy
      · exact ha
      · exact hp y hy
    · rw [List.length_cons, Nat.mul_add]
      omega
theorem atI_pick {ns : List Int} {r : Int} (h0 : 0 ≤ r) (h1 : r < ns.length) : ∃ x ∈ ns, atI (ns.map D.int) r = some (.int x) := by
  refine ⟨ns[r.toNat]'(by omega), List.getElem_mem _, ?_⟩
  unfold atI ixN
  rw [if_pos h0, if_pos (by rw [List.length_map]; exact h1)]
  show (ns.map D.int)[r.toNat]? = _
  rw [List.getElem?_map, List.getElem?_eq_getElem (by omega)]
  rfl
/-- turns that leave just the tape at slot 0 -/
theorem go_turns (i c L B : Nat) (step : ∀ x n st vs (nx : DL.Env → Sto → Prop), List.length vs = L → Tp i n st → n + c ≤ B → (∀ vs' st', List.length vs' = L → Tp i (n + c) st' → nx (some (.obj i) :: vs') st') → g x (some (.obj i) :: vs) st fun e s => b ⟨nx, rt⟩ e s)
    (xs : List D) (n : Nat) (st : Sto) (vs : DL.Env) (hl : vs.length = L) (ht : Tp i n st) (hn : n + c * xs.length ≤ B) (done : ∀ vs' st', List.length vs' = L → Tp i (n + c * xs.length) st' → kk (some (.obj i) :: vs') st') : goFor [] g b ⟨kk, rt⟩ xs (some (.obj i) :: vs) st := by
  refine go_forD (fun r env st => ∃ vs m, env = some (.obj i) :: vs ∧ vs.length = L ∧ Tp i m st ∧ m + c * r.length ≤ n + c * xs.length) ?_ ?_ xs _ st ⟨vs, n, rfl, hl, ht, Nat.le_refl _⟩
  · rintro x r _ st nx ⟨vs, m, rfl, hl, ht, hm⟩ hnx
    rw [List.length_cons, Nat.mul_add] at hm
    exact ⟨trivial, step x m st vs nx hl ht (by omega) fun vs' st' hl' t' => hnx _ _ ⟨vs', m + c, rfl, hl', t', by omega⟩⟩
  · rintro _ st ⟨vs, m, rfl, hl, ht, hm⟩
    exact ⟨trivial, done vs st hl (ht.mono (by simp at hm; omega))⟩
end
end DL

/-! The plain law of a balance: falls, runs, what stays. No program in sight. -/
namespace DL
open PySem
def sd (s : Int) : Str := if s < 0 then "left" else "right"
def fallI (s w : Int) : Int := if s < 0 then s + 2 * w else s - 2 * w
def fsides : Int → List Int → List Str
  | _, [] => []
  | s, w :: r => sd s :: fsides (fallI s w) r
def flast : Int → List Int → Int
  | s, [] => s
  | s, w :: r => flast (fallI s w) r
theorem fsides_length : ∀ (s : Int) (ws : List Int), (fsides s ws).length = ws.length
  | _, [] => rfl
  | s, w :: r => by simp [fsides, fsides_length (fallI s w) r]
theorem odd_fall {s : Int} (h : s % 2 = 1) (w : Int) : fallI s w % 2 = 1 := by
  unfold fallI
  split <;> omega
theorem lr_ne : ¬ (("right" : Str) = "left") := by decide +kernel
theorem sd_lr (s : Int) : sd s = "left" ∨ sd s = "right" := by
  unfold sd
  split
  · exact .inl rfl
  · exact .inr rfl
theorem fsides_lr : ∀ (ws : List Int) (s : Int), ∀ x ∈ fsides s ws, x = "left" ∨ x = "right"
  | [], _, _, h => by cases h
  | w :: r, s, x, h => by
    simp only [fsides, List.mem_cons] at h
    rcases h with h | h
    · rw [h]
      exact sd_lr s
    · exact fsides_lr r _ x h
theorem fsides_app : ∀ (a b : List Int) (s : Int), fsides s (a ++ b) = fsides s a ++ fsides (flast s a) b ∧ flast s (a ++ b) = flast (flast s a) b
  | [], b, s => ⟨rfl, rfl⟩
  | w :: r, b, s => by
    obtain ⟨h1, h2⟩ := fsides_app r b (fallI s w)
    simp only [List.cons_append, fsides, flast, h1, h2]
    exact ⟨trivial, trivial⟩
theorem flast_odd' : ∀ (ws : List Int) (s : Int), s % 2 = 1 → flast s ws % 2 = 1
  | [], _, h => h
  | w :: r, s, h => flast_odd' r (fallI s w) (odd_fall h w)
def leftsL : Int → List Int → List Int
  | _, [] => []
  | s, w :: r => if s < 0 then w :: leftsL (fallI s w) r else leftsL (fallI s w) r
def leftOf (s : Int) (ws : List Int) : Int := (leftsL s ws).sum
theorem left_app : ∀ (a b : List Int) (s : Int), leftOf s (a ++ b) = leftOf s a + leftOf (flast s a) b
  | [], b, s => by simp [leftOf, leftsL, flast]
  | w :: r, b, s => by
    have ih := left_app r b (fallI s w)
    unfold leftOf at ih ⊢
    simp only [List.cons_append, leftsL, flast]
    by_cases z : s < 0
    · rw [if_pos z, if_pos z, List.sum_cons, List.sum_cons, ih]
      omega
    · rw [if_neg z, if_neg z, ih]
theorem sd_left (s : Int) : (sd s = "left") ↔ s < 0 := by
  unfold sd
  split
  · simp_all
  · simp_all [lr_ne]
theorem sd_fall (s w : Int) : (if sd s = "left" then s + 2 * w else s - 2 * w) = fallI s w := by
  unfold fallI
  by_cases h : s < 0
  · rw [if_pos h, if_pos ((sd_left s).mpr h)]
  · rw [if_neg h, if_neg (fun z => h ((sd_left s).mp z))]
def cameR (s : Int) (x : Str) (w : Int) : Int := if x = "left" then s - 2 * w else s + 2 * w
def foldR (r : Int × Int) (w : Int) : Int × Int :=
  if r.1 < 2 * w ∧ 2 * w < r.2 then (1, if r.2 - 2 * w > 2 * w - r.1 then r.2 - 2 * w else 2 * w - r.1)
  else if r.2 < 2 * w then (2 * w - r.2, 2 * w - r.1) else (r.1 - 2 * w, r.2 - 2 * w)
def foldsR : Int × Int → List Int → Int × Int
  | r, [] => r
  | r, w :: ws => foldsR (foldR r w) ws
theorem foldsR_app : ∀ (a b : List Int) (r : Int × Int), foldsR r (a ++ b) = foldsR (foldsR r a) b
  | [], _, _ => rfl
  | w :: ws, b, r => foldsR_app ws b (foldR r w)
def OkRun (r : Int × Int) : Prop := 1 ≤ r.1 ∧ r.1 ≤ r.2 ∧ r.1 % 2 = 1 ∧ r.2 % 2 = 1
def wholeR : Int × Int → List Int → Bool
  | _, [] => true
  | r, w :: ws => if r.1 < 2 * w ∧ 2 * w < r.2 then false else wholeR (foldR r w) ws
theorem wholeR_app : ∀ (a b : List Int) (r : Int × Int), wholeR r (a ++ b) = (wholeR r a && wholeR (foldsR r a) b)
  | [], _, _ => rfl
  | w :: ws, b, r => by
    simp only [List.cons_append, wholeR, foldsR]
    split
    · rfl
    · exact wholeR_app ws b (foldR r w)
def ChainR (ws : List Int) : Int × Int → List (Int × Int) → Prop
  | r, [] => foldsR r ws = r
  | r, q :: rest => foldsR r ws = q ∧ q ≠ r ∧ ChainR ws q rest
def MaxOf (m : Int) (ws : List Int) : Prop := m ∈ ws ∧ ∀ y ∈ ws, y ≤ m
theorem MaxOf.eq {m m' : Int} {ws : List Int} (h : MaxOf m ws) (h1 : m' ∈ ws) (h2 : ∀ y, y ∈ ws → y ≤ m') : m' = m := by
  have a1 := h.2 _ h1
  have a2 := h2 _ h.1
  omega
theorem MaxOf.pos {m : Int} {ws : List Int} (h : MaxOf m ws) : 0 < ws.length := List.length_pos_of_mem h.1
/-- the runs to the staying one -/
structure RunsTo (ws : List Int) (m : Int) (rest : List (Int × Int)) : Prop where
  mx : MaxOf m ws
  ch : ChainR ws (1, 2 * m - 1) rest
  sz : rest.length ≤ 1000
def lastR (r : Int × Int) : List (Int × Int) → Int × Int
  | [] => r
  | q :: rest => lastR q rest
def turnsR : Int × Int → List Int → Int
  | _, [] => 0
  | r, w :: ws => (if r.2 < 2 * w then 1 else 0) + turnsR (foldR r w) ws
theorem chain_last_fix (ws : List Int) : ∀ (rest : List (Int × Int)) (r : Int × Int), ChainR ws r rest → foldsR (lastR r rest) ws = lastR r rest
  | [], r, h => h
  | q :: rest, r, h => chain_last_fix ws rest q h.2.2
def spotR (r : Int × Int) : Int := (r.2 - r.1) / 2 + 1
def halvR (r : Int × Int) : Int := (r.1 - 1) / 2 + spotR r / 2
def ResetC : Int × Int → List Int → Prop
  | r, [] => ¬ 1 < spotR r
  | r, h :: hs => 1 < spotR r ∧ h = halvR r ∧ ResetC (foldR r h) hs
instance decReset : ∀ (hs : List Int) (r : Int × Int), Decidable (ResetC r hs)
  | [], r => inferInstanceAs (Decidable (¬ 1 < spotR r))
  | h :: hs, r => by
    have := decReset hs (foldR r h)
    exact inferInstanceAs (Decidable (1 < spotR r ∧ h = halvR r ∧ ResetC (foldR r h) hs))
/-! ### sizes, runs -/
def sz (s : Int) : Int := if s < 0 then -s else s
def absd (x w : Int) : Int := if x - 2 * w < 0 then -(x - 2 * w) else x - 2 * w
def InR (x : Int) (r : Int × Int) : Prop := r.1 ≤ x ∧ x ≤ r.2 ∧ x % 2 = 1
def Sub (r q : Int × Int) : Prop := q.1 ≤ r.1 ∧ r.2 ≤ q.2
theorem sz_odd {s : Int} (h : s % 2 = 1) : sz s % 2 = 1 := by unfold sz; split <;> omega
theorem sz_pos {s : Int} (h : s % 2 = 1) : 1 ≤ sz s := by unfold sz; split <;> omega
theorem sz_fall (s w : Int) : sz (fallI s w) = absd (sz s) w := by
  unfold sz fallI absd
  by_cases z : s < 0
  · simp only [if_pos z]
    split <;> split <;> omega
  · simp only [if_neg z]
theorem fold_ok {r : Int × Int} (h : OkRun r) (w : Int) : OkRun (foldR r w) := by
  obtain ⟨h1, h2, h3, h4⟩ := h
  unfold foldR
  split
  · refine ⟨?_, ?_, ?_, ?_⟩ <;> dsimp only
    · omega
    · split <;> omega
    · decide
    · split <;> omega
  · split
    · refine ⟨?_, ?_, ?_, ?_⟩ <;> (try dsimp only) <;> omega
    · refine ⟨?_, ?_, ?_, ?_⟩ <;> (try dsimp only) <;> omega
theorem folds_ok : ∀ (ws : List Int) {r : Int × Int}, OkRun r → OkRun (foldsR r ws)
  | [], _, h => h
  | w :: ws, _, h => folds_ok ws (fold_ok h w)
theorem mem_fold {r : Int × Int} (h : OkRun r) (w y : Int) : InR y (foldR r w) ↔ ∃ x, InR x r ∧ y = absd x w := by
  obtain ⟨h1, h2, h3, h4⟩ := h
  unfold foldR InR absd
  constructor
  · intro ⟨a, b, c⟩
    split at a
    · rename_i p
      rw [if_pos p] at b
      dsimp only at a b
      by_cases q : y ≤ 2 * w - r.1
      · exact ⟨2 * w - y, ⟨by omega, by omega, by omega⟩, by split <;> omega⟩
      · refine ⟨2 * w + y, ⟨by omega, ?_, by omega⟩, by split <;> omega⟩
        split at b <;> omega
    · rename_i p
      rw [if_neg p] at b
      split at a
      · rename_i q
        rw [if_pos q] at b
        dsimp only at a b
        exact ⟨2 * w - y, ⟨by omega, by omega, by omega⟩, by split <;> omega⟩
      · rename_i q
        rw [if_neg q] at b
        dsimp only at a b
        exact ⟨2 * w + y, ⟨by omega, by omega, by omega⟩, by split <;> omega⟩
  · rintro ⟨x, ⟨a, b, c⟩, rfl⟩
    split
    · rename_i p
      refine ⟨?_, ?_, ?_⟩ <;> (try dsimp only)
      · split <;> omega
      · split <;> split <;> omega
      · split <;> omega
    · split
      · refine ⟨?_, ?_, ?_⟩ <;> (try dsimp only) <;> split <;> omega
      · refine ⟨?_, ?_, ?_⟩ <;> (try dsimp only) <;> split <;> omega
theorem fold_sub {r q : Int × Int} (hr : OkRun r) (hq : OkRun q) (s : Sub r q) (w : Int) : Sub (foldR r w) (foldR q w) := by
  have fr := fold_ok hr w
  have e1 := (mem_fold hr w (foldR r w).1).mp ⟨Int.le_refl _, fr.2.1, fr.2.2.1⟩
  have e2 := (mem_fold hr w (foldR r w).2).mp ⟨fr.2.1, Int.le_refl _, fr.2.2.2⟩
  obtain ⟨x, hx, e1⟩ := e1
  obtain ⟨y, hy, e2⟩ := e2
  have up : ∀ x, InR x r → InR x q := fun x h => ⟨Int.le_trans s.1 h.1, Int.le_trans h.2.1 s.2, h.2.2⟩
  have g1 := (mem_fold hq w _).mpr ⟨x, up x hx, e1⟩
  have g2 := (mem_fold hq w _).mpr ⟨y, up y hy, e2⟩
  exact ⟨g1.1, g2.2.1⟩
theorem folds_sub : ∀ (ws : List Int) {r q : Int × Int}, OkRun r → OkRun q → Sub r q → Sub (foldsR r ws) (foldsR q ws)
  | [], _, _, _, _, h => h
  | w :: ws, _, _, hr, hq, h => folds_sub ws (fold_ok hr w) (fold_ok hq w) (fold_sub hr hq h w)
theorem fold_low {r : Int × Int} (h : OkRun r) {m w : Int} (hr : r.2 ≤ 2 * m - 1) (h1 : 1 ≤ w) (h2 : w ≤ m) : (foldR r w).2 ≤ 2 * m - 1 := by
  obtain ⟨_, _, _, _⟩ := h
  unfold foldR
  split
  · dsimp only
    split <;> omega
  · split <;> dsimp only <;> omega
theorem folds_low (m : Int) : ∀ (ws : List Int) {r : Int × Int}, OkRun r → r.2 ≤ 2 * m - 1 → (∀ w ∈ ws, 1 ≤ w ∧ w ≤ m) → (foldsR r ws).2 ≤ 2 * m - 1
  | [], _, _, h, _ => h
  | w :: ws, _, ho, h, hw => folds_low m ws (fold_ok ho w) (fold_low ho h (hw w List.mem_cons_self).1 (hw w List.mem_cons_self).2) fun v hv => hw v (List.mem_cons_of_mem _ hv)
theorem run0_ok {m : Int} (h : 1 ≤ m) : OkRun (1, 2 * m - 1) := ⟨Int.le_refl _, by dsimp only; omega, rfl, by dsimp only; omega⟩
theorem folds_in0 {m : Int} {ws : List Int} (h : 1 ≤ m) (hw : ∀ w ∈ ws, 1 ≤ w ∧ w ≤ m) : Sub (foldsR (1, 2 * m - 1) ws) (1, 2 * m - 1) :=
  ⟨(folds_ok ws (run0_ok h)).1, folds_low m ws (run0_ok h) (Int.le_refl _) hw⟩
theorem spot_lt {r q : Int × Int} (hr : OkRun r) (hq : OkRun q) (s : Sub q r) (ne : q ≠ r) : spotR q < spotR r := by
  obtain ⟨a, b⟩ := r
  obtain ⟨c, d⟩ := q
  obtain ⟨h1, h2, h3, h4⟩ := hr
  obtain ⟨g1, g2, g3, g4⟩ := hq
  obtain ⟨s1, s2⟩ := s
  dsimp only at *
  unfold spotR
  dsimp only
  have : ¬ (c = a ∧ d = b) := fun z => ne (by rw [z.1, z.2])
  omega
theorem spot_pos {r : Int × Int} (h : OkRun r) : 1 ≤ spotR r := by
  have := h.2.1
  unfold spotR
  omega
/-- the chain of a word's runs -/
theorem chain_ex (ws : List Int) : ∀ (n : Nat) (r : Int × Int), OkRun r → Sub (foldsR r ws) r → spotR r ≤ n → ∃ rest, ChainR ws r rest ∧ (rest.length : Int) + 1 ≤ spotR r ∧ (∀ q ∈ rest, OkRun q ∧ Sub q r)
  | 0, r, h, _, hn => by have := spot_pos h; omega
  | n + 1, r, h, hs, hn => by
    by_cases e : foldsR r ws = r
    · exact ⟨[], e, by have := spot_pos h; simp; omega, fun _ m => by cases m⟩
    · have hq := folds_ok ws h
      have lt := spot_lt h hq hs e
      obtain ⟨rest, h1, h2, h3⟩ := chain_ex ws n (foldsR r ws) hq (folds_sub ws hq h hs) (by omega)
      refine ⟨foldsR r ws :: rest, ⟨rfl, e, h1⟩, by simp only [List.length_cons]; omega, fun q m => ?_⟩
      rcases List.mem_cons.mp m with rfl | m
      · exact ⟨hq, hs⟩
      · exact ⟨(h3 q m).1, Int.le_trans hs.1 (h3 q m).2.1, Int.le_trans (h3 q m).2.2 hs.2⟩
def WOk (m : Int) (ws : List Int) : Prop := MaxOf m ws ∧ ∀ w ∈ ws, 1 ≤ w
theorem WOk.all {m : Int} {ws : List Int} (h : WOk m ws) : ∀ w ∈ ws, 1 ≤ w ∧ w ≤ m := fun w hw => ⟨h.2 w hw, h.1.2 w hw⟩
theorem WOk.one {m : Int} {ws : List Int} (h : WOk m ws) : 1 ≤ m := h.2 m h.1.1
theorem max_ex : ∀ (ws : List Int), ws ≠ [] → ∃ m, MaxOf m ws
  | [], h => (h rfl).elim
  | [w], _ => ⟨w, List.mem_cons_self, fun y hy => by rw [List.mem_singleton.mp hy]; exact Int.le_refl _⟩
  | w :: v :: r, _ => by
    obtain ⟨m, h1, h2⟩ := max_ex (v :: r) (by simp)
    by_cases h : w ≤ m
    · exact ⟨m, List.mem_cons_of_mem _ h1, fun y hy => by
        rcases List.mem_cons.mp hy with rfl | hy
        · exact h
        · exact h2 y hy⟩
    · exact ⟨w, List.mem_cons_self, fun y hy => by
        rcases List.mem_cons.mp hy with rfl | hy
        · exact Int.le_refl _
        · have := h2 y hy
          omega⟩
theorem runs_ex {m : Int} {ws : List Int} (h : WOk m ws) (hm : m ≤ 1000) : ∃ rest, RunsTo ws m rest ∧ (rest.length : Int) ≤ m - 1 ∧ ∀ q ∈ (1, 2 * m - 1) :: rest, OkRun q ∧ Sub q (1, 2 * m - 1) := by
  have h1 := h.one
  have e : spotR (1, 2 * m - 1) = m := by
    unfold spotR
    dsimp only
    omega
  obtain ⟨rest, c1, c2, c3⟩ := chain_ex ws m.toNat (1, 2 * m - 1) (run0_ok h1) (folds_in0 h1 h.all) (by omega)
  rw [e] at c2
  refine ⟨rest, ⟨h.1, c1, by omega⟩, by omega, fun q hq => ?_⟩
  rcases List.mem_cons.mp hq with rfl | hq
  · exact ⟨run0_ok h1, Int.le_refl _, Int.le_refl _⟩
  · exact c3 q hq
theorem last_mem : ∀ (rest : List (Int × Int)) (r : Int × Int), lastR r rest ∈ r :: rest
  | [], r => List.mem_cons_self
  | q :: rest, r => List.mem_cons_of_mem _ (last_mem rest q)
/-- a fold never makes more spots; fewer, where it parts -/
theorem spot_fold {r : Int × Int} (h : OkRun r) (w : Int) : spotR (foldR r w) ≤ spotR r ∧ (r.1 < 2 * w ∧ 2 * w < r.2 → spotR (foldR r w) < spotR r) := by
  obtain ⟨h1, h2, h3, h4⟩ := h
  unfold foldR spotR
  constructor
  · split
    · dsimp only
      split <;> omega
    · split <;> dsimp only <;> omega
  · intro p
    rw [if_pos p]
    dsimp only
    split <;> omega
theorem spot_folds : ∀ (ws : List Int) {r : Int × Int}, OkRun r → spotR (foldsR r ws) ≤ spotR r
  | [], _, _ => Int.le_refl _
  | w :: ws, _, h => Int.le_trans (spot_folds ws (fold_ok h w)) (spot_fold h w).1
theorem whole_of : ∀ (ws : List Int) {r : Int × Int}, OkRun r → spotR (foldsR r ws) = spotR r → wholeR r ws = true
  | [], _, _, _ => rfl
  | w :: ws, r, h, e => by
    have a := spot_folds ws (fold_ok h w)
    have b := spot_fold h w
    simp only [foldsR] at e
    unfold wholeR
    by_cases p : r.1 < 2 * w ∧ 2 * w < r.2
    · have := b.2 p
      omega
    · rw [if_neg p]
      exact whole_of ws (fold_ok h w) (by omega)
theorem whole_spots : ∀ (ws : List Int) {r : Int × Int}, OkRun r → wholeR r ws = true → spotR (foldsR r ws) = spotR r
  | [], _, _, _ => rfl
  | w :: ws, r, h, e => by
    unfold wholeR at e
    split at e
    · cases e
    · rename_i p
      have := whole_spots ws (fold_ok h w) e
      simp only [foldsR]
      rw [this]
      obtain ⟨h1, h2, h3, h4⟩ := h
      unfold foldR spotR
      rw [if_neg p]
      split <;> dsimp only <;> omega
/-- a whole run is led spot by spot -/
theorem whole_led : ∀ (ws : List Int) {r : Int × Int}, OkRun r → wholeR r ws = true → ∀ s, InR s r →
    flast s ws = (if turnsR r ws % 2 = 0 then s - r.1 + (foldsR r ws).1 else -((foldsR r ws).2 - (s - r.1))) ∧
    flast (0 - s) ws = (if turnsR r ws % 2 = 0 then -(s - r.1 + (foldsR r ws).1) else (foldsR r ws).2 - (s - r.1))
  | [], r, h, _, s, hs => by
    have z : turnsR r [] % 2 = 0 := rfl
    rw [if_pos z, if_pos z]
    simp only [flast, foldsR]
    constructor <;> omega
  | w :: ws, r, h, e, s, hs => by
    unfold wholeR at e
    split at e
    · cases e
    rename_i p
    have hf := fold_ok h w
    obtain ⟨s1, s2, s3⟩ := hs
    have h1 := h.1
    have h3 := h.2.2.1
    have h4 := h.2.2.2
    by_cases q : r.2 < 2 * w
    · have ef : foldR r w = (2 * w - r.2, 2 * w - r.1) := by unfold foldR; rw [if_neg p, if_pos q]
      have ih := whole_led ws hf e (2 * w - s) (by rw [ef]; exact ⟨by dsimp only; omega, by dsimp only; omega, by omega⟩)
      have f1 : fallI s w = 0 - (2 * w - s) := by unfold fallI; rw [if_neg (by omega)]; omega
      have f2 : fallI (0 - s) w = 2 * w - s := by unfold fallI; rw [if_pos (by omega)]; omega
      simp only [flast, foldsR, turnsR, if_pos q]
      rw [f1, f2, ih.1, ih.2]
      have sp := whole_spots ws hf e
      rw [ef] at sp ⊢
      have ok2 := folds_ok ws hf
      rw [ef] at ok2
      obtain ⟨k1, k2, k3, k4⟩ := ok2
      unfold spotR at sp
      dsimp only at sp ⊢
      generalize turnsR (2 * w - r.2, 2 * w - r.1) ws = t
      generalize foldsR (2 * w - r.2, 2 * w - r.1) ws = g at *
      by_cases tt : t % 2 = 0
      · rw [if_pos tt, if_neg (show ¬ (1 + t) % 2 = 0 by omega), if_pos tt, if_neg (show ¬ (1 + t) % 2 = 0 by omega)]
        constructor <;> omega
      · rw [if_neg tt, if_pos (show (1 + t) % 2 = 0 by omega), if_neg tt, if_pos (show (1 + t) % 2 = 0 by omega)]
        constructor <;> omega
    · have ef : foldR r w = (r.1 - 2 * w, r.2 - 2 * w) := by unfold foldR; rw [if_neg p, if_neg q]
      have lo : 2 * w < r.1 := by omega
      have ih := whole_led ws hf e (s - 2 * w) (by rw [ef]; exact ⟨by dsimp only; omega, by dsimp only; omega, by omega⟩)
      have f1 : fallI s w = s - 2 * w := by unfold fallI; rw [if_neg (by omega)]
      have f2 : fallI (0 - s) w = 0 - (s - 2 * w) := by unfold fallI; rw [if_pos (by omega)]; omega
      simp only [flast, foldsR, turnsR, if_neg q, Int.zero_add]
      rw [f1, f2, ih.1, ih.2, ef]
      dsimp only
      constructor
      · split <;> omega
      · split <;> omega
/-! ### rounds -/
def flastN (ws : List Int) : Nat → Int → Int
  | 0, s => s
  | n + 1, s => flastN ws n (flast s ws)
theorem flastN_add (ws : List Int) : ∀ (a b : Nat) (s : Int), flastN ws (a + b) s = flastN ws b (flastN ws a s)
  | 0, b, s => by rw [Nat.zero_add]; rfl
  | a + 1, b, s => by
    rw [show a + 1 + b = (a + b) + 1 by omega]
    exact flastN_add ws a b (flast s ws)
theorem flastN_succ (ws : List Int) (n : Nat) (s : Int) : flastN ws (n + 1) s = flast (flastN ws n s) ws := flastN_add ws n 1 s
theorem flastN_odd (ws : List Int) : ∀ (n : Nat) {s : Int}, s % 2 = 1 → flastN ws n s % 2 = 1
  | 0, _, h => h
  | n + 1, _, h => flastN_odd ws n (flast_odd' ws _ h)
theorem fall_neg {s : Int} (h : s % 2 = 1) (w : Int) : fallI (0 - s) w = 0 - fallI s w := by
  unfold fallI
  by_cases z : s < 0
  · rw [if_neg (show ¬ 0 - s < 0 by omega), if_pos z]
    omega
  · rw [if_pos (show 0 - s < 0 by omega), if_neg z]
    omega
theorem flast_neg : ∀ (ws : List Int) {s : Int}, s % 2 = 1 → flast (0 - s) ws = 0 - flast s ws
  | [], _, _ => rfl
  | w :: r, s, h => by
    simp only [flast]
    rw [fall_neg h, flast_neg r (odd_fall h w)]
theorem flastN_neg (ws : List Int) : ∀ (n : Nat) {s : Int}, s % 2 = 1 → flastN ws n (0 - s) = 0 - flastN ws n s
  | 0, _, _ => rfl
  | n + 1, s, h => by
    simp only [flastN]
    rw [flast_neg ws h, flastN_neg ws n (flast_odd' ws s h)]
theorem sz_neg (s : Int) : sz (0 - s) = sz s := by unfold sz; split <;> split <;> omega
theorem sz_led : ∀ (ws : List Int) {r : Int × Int} {s : Int}, OkRun r → s % 2 = 1 → InR (sz s) r → InR (sz (flast s ws)) (foldsR r ws)
  | [], _, _, _, _, h => h
  | w :: ws, r, s, hr, hs, h => sz_led ws (fold_ok hr w) (odd_fall hs w) ((mem_fold hr w _).mpr ⟨sz s, h, sz_fall s w⟩)
/-- the run that stays -/
structure Stays (ws : List Int) (T : Int × Int) : Prop where
  ok : OkRun T
  fix : foldsR T ws = T
theorem Stays.whole {ws : List Int} {T : Int × Int} (h : Stays ws T) : wholeR T ws = true := whole_of ws h.ok (by rw [h.fix])
theorem stays_of {m : Int} {ws : List Int} {rest : List (Int × Int)} (h : WOk m ws) (hr : RunsTo ws m rest) : Stays ws (lastR (1, 2 * m - 1) rest) ∧ Sub (lastR (1, 2 * m - 1) rest) (1, 2 * m - 1) := by
  have key : ∀ (rest : List (Int × Int)) (r : Int × Int), OkRun r → ChainR ws r rest → Sub (foldsR r ws) r → OkRun (lastR r rest) ∧ Sub (lastR r rest) r := by
    intro rest
    induction rest with
    | nil => intro r ho _ _; exact ⟨ho, Int.le_refl _, Int.le_refl _⟩
    | cons q rest ih =>
      intro r ho hc hs
      have hc1 := hc.1
      have oq : OkRun q := hc1 ▸ folds_ok ws ho
      have sq : Sub q r := hc1 ▸ hs
      obtain ⟨a, b⟩ := ih q oq hc.2.2 (by have := folds_sub ws oq ho sq; rwa [hc1] at this)
      exact ⟨a, Int.le_trans sq.1 b.1, Int.le_trans b.2 sq.2⟩
  have k := key rest _ (run0_ok h.one) hr.ch (folds_in0 h.one h.all)
  exact ⟨⟨k.1, chain_last_fix ws rest _ hr.ch⟩, k.2⟩
def lenOf (T : Int × Int) (ws : List Int) : Nat := (1 + turnsR T ws % 2).toNat
theorem lenOf_eq (T : Int × Int) (ws : List Int) : ((lenOf T ws : Nat) : Int) = 1 + turnsR T ws % 2 := by unfold lenOf; omega
theorem stay_led {ws : List Int} {T : Int × Int} (h : Stays ws T) {s : Int} (hs : s % 2 = 1) (hi : InR (sz s) T) :
    InR (sz (flast s ws)) T ∧ (turnsR T ws % 2 = 0 → flast s ws = s) ∧ (turnsR T ws % 2 = 1 → (flast s ws < 0 ↔ 0 < s) ∧ sz (flast s ws) = T.1 + T.2 - sz s ∧ flast (flast s ws) ws = s) := by
  have a := sz_led ws h.ok hs hi
  rw [h.fix] at a
  refine ⟨a, ?_⟩
  have nz : s ≠ 0 := by omega
  have key : ∀ x, InR x T → (turnsR T ws % 2 = 0 → flast x ws = x ∧ flast (0 - x) ws = 0 - x) ∧ (turnsR T ws % 2 = 1 → flast x ws = 0 - (T.1 + T.2 - x) ∧ flast (0 - x) ws = T.1 + T.2 - x) := by
    intro x hx
    obtain ⟨l1, l2⟩ := whole_led ws h.ok h.whole x hx
    rw [h.fix] at l1 l2
    constructor
    · intro z
      rw [if_pos z] at l1 l2
      constructor <;> omega
    · intro z
      rw [if_neg (by omega)] at l1 l2
      constructor <;> omega
  have ok := h.ok
  obtain ⟨o1, o2, o3, o4⟩ := ok
  by_cases z : s < 0
  · have e : sz s = 0 - s := by unfold sz; rw [if_pos z]; omega
    rw [e] at hi
    obtain ⟨k1, k2⟩ := key (0 - s) hi
    rw [show 0 - (0 - s) = s by omega] at k1 k2
    refine ⟨fun t => (k1 t).2, fun t => ?_⟩
    obtain ⟨g1, g2⟩ := k2 t
    have hy : InR (T.1 + T.2 - (0 - s)) T := ⟨by have := hi.2.1; omega, by have := hi.1; omega, by have := hi.2.2; omega⟩
    have k3 := ((key _ hy).2 t).1
    rw [g2, e]
    refine ⟨⟨fun q => ?_, fun q => ?_⟩, ?_, ?_⟩
    · have := hy.1; omega
    · omega
    · unfold sz
      rw [if_neg (by have := hy.1; omega)]
    · rw [k3]; omega
  · have e : sz s = s := by unfold sz; rw [if_neg z]
    rw [e] at hi
    obtain ⟨k1, k2⟩ := key s hi
    refine ⟨fun t => (k1 t).1, fun t => ?_⟩
    obtain ⟨g1, g2⟩ := k2 t
    have hy : InR (T.1 + T.2 - s) T := ⟨by have := hi.2.1; omega, by have := hi.1; omega, by have := hi.2.2; omega⟩
    have k3 := ((key _ hy).2 t).2
    rw [g1, e]
    refine ⟨⟨fun q => ?_, fun q => ?_⟩, ?_, ?_⟩
    · omega
    · have := hy.1; omega
    · unfold sz
      have := hy.1
      rw [if_pos (by omega)]
      omega
    · rw [k3]; omega
theorem stay_len {ws : List Int} {T : Int × Int} (h : Stays ws T) {s : Int} (hs : s % 2 = 1) (hi : InR (sz s) T) : flastN ws (lenOf T ws) s = s ∧ (lenOf T ws = 1 ↔ flast s ws = s) ∧ (lenOf T ws = 1 ∨ lenOf T ws = 2) := by
  obtain ⟨_, k0, k1⟩ := stay_led h hs hi
  have e : turnsR T ws % 2 = 0 ∨ turnsR T ws % 2 = 1 := by omega
  rcases e with e | e
  · have el : lenOf T ws = 1 := by unfold lenOf; omega
    rw [el]
    exact ⟨k0 e, ⟨fun _ => k0 e, fun _ => rfl⟩, .inl rfl⟩
  · have el : lenOf T ws = 2 := by unfold lenOf; omega
    rw [el]
    obtain ⟨g1, g2, g3⟩ := k1 e
    refine ⟨g3, ⟨fun z => (by cases z), fun z => ?_⟩, .inr rfl⟩
    rw [z] at g1
    omega
theorem stay_N {ws : List Int} {T : Int × Int} (h : Stays ws T) : ∀ (n : Nat) {s : Int}, s % 2 = 1 → InR (sz s) T → flastN ws n s = (if n % lenOf T ws = 0 then s else flast s ws) ∧ InR (sz (flastN ws n s)) T
  | 0, s, hs, hi => by
    rw [Nat.zero_mod, if_pos rfl]
    exact ⟨rfl, hi⟩
  | n + 1, s, hs, hi => by
    obtain ⟨l1, l2, l3⟩ := stay_len h hs hi
    have a := (stay_led h hs hi).1
    obtain ⟨i1, i2⟩ := stay_N h n (flast_odd' ws s hs) a
    refine ⟨?_, i2⟩
    show flastN ws n (flast s ws) = _
    rw [i1]
    rcases l3 with l3 | l3
    · rw [l3, Nat.mod_one, if_pos rfl, Nat.mod_one, if_pos rfl]
      exact l2.mp l3
    · rw [l3] at l1 ⊢
      have e : flast (flast s ws) ws = s := l1
      by_cases z : n % 2 = 0
      · rw [if_pos z, if_neg (by omega)]
      · rw [if_neg z, if_pos (by omega), e]
/-! ### far off -/
theorem flast_far : ∀ (ws : List Int) (s : Int), (∀ w ∈ ws, 1 ≤ w) → 2 * ws.sum < s → flast s ws = s - 2 * ws.sum
  | [], s, _, _ => by simp [flast]
  | w :: r, s, hw, h => by
    rw [List.sum_cons] at h ⊢
    have p : 0 ≤ r.sum := by
      have : ∀ r : List Int, (∀ w ∈ r, 1 ≤ w) → 0 ≤ r.sum := by
        intro r
        induction r with
        | nil => intro _; simp
        | cons a r ih => intro q; rw [List.sum_cons]; have := ih fun x hx => q x (List.mem_cons_of_mem _ hx); have := q a List.mem_cons_self; omega
      exact this r fun x hx => hw x (List.mem_cons_of_mem _ hx)
    have w1 := hw w List.mem_cons_self
    have f : fallI s w = s - 2 * w := by unfold fallI; rw [if_neg (by omega)]
    simp only [flast]
    rw [f, flast_far r (s - 2 * w) (fun x hx => hw x (List.mem_cons_of_mem _ hx)) (by omega)]
    omega
theorem sum_pos {m : Int} {ws : List Int} (h : WOk m ws) : m ≤ ws.sum := by
  have : ∀ r : List Int, (∀ w ∈ r, 1 ≤ w) → ∀ w ∈ r, w ≤ r.sum := by
    intro r
    induction r with
    | nil => intro _ w hw; cases hw
    | cons a r ih =>
      intro q w hw
      rw [List.sum_cons]
      have q1 := q a List.mem_cons_self
      have p : 0 ≤ r.sum := by
        clear ih hw
        have q2 : ∀ x ∈ r, 1 ≤ x := fun x hx => q x (List.mem_cons_of_mem _ hx)
        clear q
        induction r with
        | nil => simp
        | cons b r ih => rw [List.sum_cons]; have := ih fun x hx => q2 x (List.mem_cons_of_mem _ hx); have := q2 b List.mem_cons_self; omega
      rcases List.mem_cons.mp hw with rfl | hw
      · omega
      · have := ih (fun x hx => q x (List.mem_cons_of_mem _ hx)) w hw
        omega
  exact this ws h.2 m h.1.1
def nearR (s k : Int) : Int := if 0 < s then s - k else s + k
theorem near_far (ws : List Int) (hw : ∀ w ∈ ws, 1 ≤ w) (hp : 0 < ws.sum) : ∀ (k : Nat) (s : Int), s % 2 = 1 → 2 * ws.sum * k ≤ sz s - 1 → flastN ws k s = nearR s (2 * ws.sum * k) ∧ sz (flastN ws k s) = sz s - 2 * ws.sum * k
  | 0, s, hs, _ => by
    simp only [flastN, nearR]
    simp
  | k + 1, s, hs, h => by
    have e : 2 * ws.sum * ((k + 1 : Nat) : Int) = 2 * ws.sum * k + 2 * ws.sum := by rw [Int.natCast_succ, Int.mul_add, Int.mul_one]
    rw [e] at h
    have nn : 0 ≤ 2 * ws.sum * k := Int.mul_nonneg (by omega) (by omega)
    have f : flast s ws = nearR s (2 * ws.sum) ∧ sz (flast s ws) = sz s - 2 * ws.sum := by
      unfold nearR
      by_cases z : 0 < s
      · have es : sz s = s := by unfold sz; rw [if_neg (by omega)]
        have g := flast_far ws s hw (by omega)
        rw [if_pos z, g, es]
        refine ⟨rfl, ?_⟩
        unfold sz
        rw [if_neg (by omega)]
      · have es : sz s = 0 - s := by unfold sz; rw [if_pos (by omega)]; omega
        have g := flast_far ws (0 - s) hw (by omega)
        have g2 := flast_neg ws (s := 0 - s) (by omega)
        rw [show 0 - (0 - s) = s by omega] at g2
        rw [if_neg z, g2, g, es]
        refine ⟨by omega, ?_⟩
        unfold sz
        rw [if_pos (by omega)]
        omega
    obtain ⟨i1, i2⟩ := near_far ws hw hp k (flast s ws) (flast_odd' ws s hs) (by omega)
    rw [e]
    refine ⟨?_, by show sz (flastN ws k (flast s ws)) = _; omega⟩
    show flastN ws k (flast s ws) = _
    rw [i1, f.1]
    unfold nearR
    by_cases z : 0 < s
    · have es : sz s = s := by unfold sz; rw [if_neg (by omega)]
      rw [if_pos z, if_pos (by omega), if_pos z]
      omega
    · have es : sz s = 0 - s := by unfold sz; rw [if_pos (by omega)]; omega
      rw [if_neg z, if_neg (by omega), if_neg z]
      omega
def farR (s : Int) (ws : List Int) : Int := (sz s - 1) / (2 * ws.sum)
theorem far_facts {ws : List Int} (hp : 0 < ws.sum) {s : Int} (hs : s % 2 = 1) : 0 ≤ farR s ws ∧ 2 * ws.sum * farR s ws ≤ sz s - 1 ∧ sz s - 1 < 2 * ws.sum * farR s ws + 2 * ws.sum := by
  have p := sz_pos hs
  unfold farR
  have a := Int.emod_add_mul_ediv (sz s - 1) (2 * ws.sum)
  have b := Int.emod_nonneg (sz s - 1) (b := 2 * ws.sum) (by omega)
  have c := Int.emod_lt_of_pos (sz s - 1) (b := 2 * ws.sum) (by omega)
  exact ⟨Int.ediv_nonneg (by omega) (by omega), by omega, by omega⟩
theorem below_round {m : Int} : ∀ (ws : List Int) {s : Int}, (∀ w ∈ ws, 1 ≤ w ∧ w ≤ m) → s % 2 = 1 → (sz s ≤ 2 * m - 1 ∨ sz s - 1 < 2 * ws.sum) → sz (flast s ws) ≤ 2 * m - 1
  | [], s, _, hs, h => by
    have := sz_pos hs
    rw [List.sum_nil] at h
    simp only [flast]
    omega
  | w :: r, s, hw, hs, h => by
    simp only [flast]
    have p := sz_pos hs
    obtain ⟨w1, w2⟩ := hw w List.mem_cons_self
    refine below_round r (fun x hx => hw x (List.mem_cons_of_mem _ hx)) (odd_fall hs w) ?_
    rw [sz_fall, List.sum_cons] at *
    unfold absd
    by_cases z : sz s ≤ 2 * m - 1
    · left
      split <;> omega
    · right
      rw [if_neg (by omega)]
      omega
theorem chain_led {ws : List Int} : ∀ (rest : List (Int × Int)) {r : Int × Int} {s : Int}, OkRun r → s % 2 = 1 → ChainR ws r rest → InR (sz s) r → InR (sz (flastN ws rest.length s)) (lastR r rest)
  | [], _, _, _, _, _, h => h
  | q :: rest, r, s, hr, hs, hc, h => by
    have a := sz_led ws hr hs h
    rw [hc.1] at a
    exact chain_led rest (hc.1 ▸ folds_ok ws hr) (flast_odd' ws s hs) hc.2.2 a
theorem least_ex {P : Nat → Prop} : ∀ (n : Nat), P n → ∃ k, k ≤ n ∧ P k ∧ ∀ j, j < k → ¬ P j := by
  intro n
  induction n using Nat.strongRecOn with
  | _ n ih =>
    intro h
    by_cases q : ∃ j, j < n ∧ P j
    · obtain ⟨j, hj, pj⟩ := q
      obtain ⟨k, h1, h2, h3⟩ := ih j hj pj
      exact ⟨k, by omega, h2, h3⟩
    · exact ⟨n, Nat.le_refl _, h, fun j hj pj => q ⟨j, hj, pj⟩⟩
/-- the first round at whose beginning the size is in the run -/
def SettlesAt (ws : List Int) (T : Int × Int) (s : Int) (k : Nat) : Prop := InR (sz (flastN ws k s)) T ∧ ∀ j, j < k → ¬ InR (sz (flastN ws j s)) T
theorem settles_ex {m : Int} {ws : List Int} {rest : List (Int × Int)} (h : WOk m ws) (hr : RunsTo ws m rest) {s : Int} (hs : s % 2 = 1) :
    ∃ k, SettlesAt ws (lastR (1, 2 * m - 1) rest) s k ∧ (farR s ws).toNat ≤ k ∧ k ≤ (farR s ws).toNat + 1 + rest.length ∧ (sz s ≤ 2 * m - 1 → k ≤ rest.length) := by
  have hp : 0 < ws.sum := by have := sum_pos h; have := h.one; omega
  obtain ⟨f0, f1, f2⟩ := far_facts hp hs
  generalize hF : farR s ws = F at *
  obtain ⟨n, rfl⟩ := Int.eq_ofNat_of_zero_le f0
  rw [Int.toNat_natCast]
  obtain ⟨g1, g2⟩ := near_far ws h.2 hp n s hs f1
  have odd := flastN_odd ws n hs
  have in0 : ∀ {t : Int}, t % 2 = 1 → sz t ≤ 2 * m - 1 → InR (sz t) (1, 2 * m - 1) := fun ht hl => ⟨sz_pos ht, hl, sz_odd ht⟩
  have ok0 := run0_ok h.one
  have st := stays_of h hr
  have base : ∃ k, k ≤ n + 1 + rest.length ∧ (sz s ≤ 2 * m - 1 → k ≤ rest.length) ∧ InR (sz (flastN ws k s)) (lastR (1, 2 * m - 1) rest) := by
    by_cases z : sz s ≤ 2 * m - 1
    · exact ⟨rest.length, by omega, fun _ => Nat.le_refl _, chain_led rest ok0 hs hr.ch (in0 hs z)⟩
    · refine ⟨n + (1 + rest.length), by omega, fun q => absurd q z, ?_⟩
      rw [flastN_add, Nat.add_comm, flastN_succ, ← flastN_succ, Nat.add_comm, Nat.add_comm 1]
      show InR (sz (flastN ws rest.length (flast (flastN ws n s) ws))) _
      have b := below_round ws h.all odd (.inr (by omega))
      exact chain_led rest ok0 (flast_odd' ws _ odd) hr.ch (in0 (flast_odd' ws _ odd) b)
  obtain ⟨k0, b1, b2, b3⟩ := base
  obtain ⟨k, c1, c2, c3⟩ := least_ex (P := fun k => InR (sz (flastN ws k s)) (lastR (1, 2 * m - 1) rest)) k0 b3
  refine ⟨k, ⟨c2, c3⟩, ?_, by omega, fun z => by have := b2 z; omega⟩
  apply Nat.le_of_not_lt
  intro lt
  have e : 2 * ws.sum * (k : Int) + 2 * ws.sum ≤ 2 * ws.sum * (n : Int) := by
    have := Int.mul_le_mul_of_nonneg_left (show ((k : Int) + 1) ≤ n by omega) (show 0 ≤ 2 * ws.sum by omega)
    rw [Int.mul_add, Int.mul_one] at this
    exact this
  obtain ⟨_, q2⟩ := near_far ws h.2 hp k s hs (by omega)
  have u := c2.2.1
  have v := st.2.2
  have sp := sum_pos h
  dsimp only at v
  omega
theorem settles_unique {ws : List Int} {T : Int × Int} {s : Int} {a b : Nat} (h : SettlesAt ws T s a) (g : SettlesAt ws T s b) : a = b := by
  rcases Nat.lt_trichotomy a b with z | z | z
  · exact absurd h.1 (g.2 a z)
  · exact z
  · exact absurd g.1 (h.2 b z)
/-! ### pounds -/
theorem flast_left : ∀ (ws : List Int) (s : Int), flast s ws = s + 4 * leftOf s ws - 2 * ws.sum
  | [], s => by simp [flast, leftOf, leftsL]
  | w :: r, s => by
    have ih := flast_left r (fallI s w)
    unfold leftOf at ih ⊢
    simp only [flast, leftsL, List.sum_cons]
    rw [ih]
    by_cases z : s < 0
    · rw [if_pos z, List.sum_cons]
      have e : fallI s w = s + 2 * w := by unfold fallI; rw [if_pos z]
      omega
    · rw [if_neg z]
      have e : fallI s w = s - 2 * w := by unfold fallI; rw [if_neg z]
      omega
/-! ### the sizes of a run, one by one -/
def oddsR (r : Int × Int) : List Int := (List.range (spotR r).toNat).map fun i => r.1 + (i : Nat) * 2
theorem stepD_odds (r : Int × Int) : stepD r.1 2 (spotR r).toNat = (oddsR r).map D.int := by
  unfold stepD oddsR
  rw [List.map_map]
  rfl
theorem oddsR_length (r : Int × Int) : (oddsR r).length = (spotR r).toNat := by unfold oddsR; rw [List.length_map, List.length_range]
theorem mem_odds {r : Int × Int} (h : OkRun r) (x : Int) : x ∈ oddsR r ↔ InR x r := by
  obtain ⟨h1, h2, h3, h4⟩ := h
  unfold oddsR InR spotR
  rw [List.mem_map]
  constructor
  · rintro ⟨i, hi, rfl⟩
    have := List.mem_range.mp hi
    exact ⟨by omega, by omega, by omega⟩
  · rintro ⟨a, b, c⟩
    exact ⟨((x - r.1) / 2).toNat, List.mem_range.mpr (by omega), by omega⟩
theorem oddsR_lt (r : Int × Int) : (oddsR r).Pairwise (· < ·) := by
  unfold oddsR
  rw [List.pairwise_map]
  exact List.pairwise_lt_range.imp fun h => by omega
theorem setZ_fold {r : Int × Int} (h : OkRun r) (w : Int) : setZ ((oddsR r).map fun x => absd x w) = oddsR (foldR r w) := by
  refine setZ_of (fun k => ?_) (oddsR_lt _)
  rw [mem_odds (fold_ok h w), mem_fold h, List.mem_map]
  constructor
  · rintro ⟨x, a, b⟩
    exact ⟨x, (mem_odds h x).mpr a, b.symm⟩
  · rintro ⟨x, a, b⟩
    exact ⟨x, (mem_odds h x).mp a, b.symm⟩
theorem oddsR_inj {r q : Int × Int} (hr : OkRun r) (hq : OkRun q) (e : oddsR r = oddsR q) : r = q := by
  have a1 := (mem_odds hq r.1).mp (e ▸ (mem_odds hr r.1).mpr ⟨Int.le_refl _, hr.2.1, hr.2.2.1⟩)
  have a2 := (mem_odds hq r.2).mp (e ▸ (mem_odds hr r.2).mpr ⟨hr.2.1, Int.le_refl _, hr.2.2.2⟩)
  have b1 := (mem_odds hr q.1).mp (e ▸ (mem_odds hq q.1).mpr ⟨Int.le_refl _, hq.2.1, hq.2.2.1⟩)
  have b2 := (mem_odds hr q.2).mp (e ▸ (mem_odds hq q.2).mpr ⟨hq.2.1, Int.le_refl _, hq.2.2.2⟩)
  obtain ⟨x, y⟩ := r
  obtain ⟨u, v⟩ := q
  have c1 := a1.1
  have c2 := b1.1
  have c3 := a2.2.1
  have c4 := b2.2.1
  dsimp only at *
  rw [show x = u by omega, show y = v by omega]
end DL

/-! x in xs, x not in xs: lists and tuples of data of any depth. -/
namespace DL
open PySem PySem.Spec PyProof.Rows L2
def inD (d : D) (ys : List D) : Bool := ys.any fun z => eqD z d
def inK (neg : Bool) (x : D) (ys : List D) (st : Sto) (k : DK) : Prop := okD 60 x = true ∧ okDs 59 ys = true ∧ k (.bl (if neg = true then !inD x ys else inD x ys)) st
def inOp (neg : Bool) : F2 := fun d e st k => match deref st e with
  | .lst ys => inK neg (deref st d) ys st k
  | .tup ys => inK neg (deref st d) ys st k
  | _ => False
theorem any_toPs {n m : Nat} {d : D} (h : okD n d = true) : ∀ (ys : List D), okDs m ys = true → ((toPs ys).any fun z => PyData.eqv z (toP d)) = inD d ys
  | [], _ => by simp [toPs, inD]
  | y :: ys, g => by
    simp only [okDs, Bool.and_eq_true] at g
    have ih := any_toPs h ys g.2
    unfold inD at ih ⊢
    simp only [toPs, List.any_cons]
    rw [eqv_toP m n y d g.1 h, ih]
section
variable {X : Cx}
theorem in_room {A : Around} {d : D} {n : Nat} (h : okD n d = true) (hn : n ≤ 60) (hu : A.units + 64 < cLine) (xs : List PyData) : A.units + 1 + min (PyData.depthAll xs) (toP d).depth < cLine := by
  have := (shape_toP n d h).2
  have := Nat.min_le_right (PyData.depthAll xs) (toP d).depth
  omega
theorem dop_in (hu : X.A.units + 64 < cLine) : OpR X (compareOp .In) (rD X.K (inOp false)) := by
  intro pins s σ H x y v u Q I rx ry ⟨w, st, d, e, kk, W, R1, R2, q, fo⟩
  unfold inOp at q
  split at q
  · rename_i ys hd
    obtain ⟨h1, h2, q⟩ := q
    obtain ⟨as, r1⟩ := Dp.reads I _ x v (dp_deref W R1 h1) rx
    have ok2 : okD 60 (deref st e) = true := by rw [hd]; exact h2
    have hp := dp_deref W R2 ok2
    rw [hd] at hp
    obtain ⟨bs, r2⟩ := Dp.reads I _ y u hp ry
    refine SeqAt.in_list_reads r2 r1 (shape_toPs 59 ys h2).1 (shape_toP 60 _ h1).1 (in_room h1 (Nat.le_refl _) hu _) ⟨.bl _, H, I, rfl, ?_⟩
    rw [any_toPs h1 ys h2]
    exact fo.id q W rep_bl
  · rename_i ys hd
    obtain ⟨h1, h2, q⟩ := q
    obtain ⟨as, r1⟩ := Dp.reads I _ x v (dp_deref W R1 h1) rx
    have ok2 : okD 60 (deref st e) = true := by rw [hd]; exact h2
    have hp := dp_deref W R2 ok2
    rw [hd] at hp
    obtain ⟨bs, r2⟩ := Dp.reads I _ y u hp ry
    refine SeqAt.in_tuple_reads r2 r1 (shape_toPs 59 ys h2).1 (shape_toP 60 _ h1).1 (in_room h1 (Nat.le_refl _) hu _) ⟨.bl _, H, I, rfl, ?_⟩
    rw [any_toPs h1 ys h2]
    exact fo.id q W rep_bl
  · exact q.elim
theorem dop_notin (hu : X.A.units + 64 < cLine) : OpR X (compareOp .NotIn) (rD X.K (inOp true)) := by
  intro pins s σ H x y v u Q I rx ry ⟨w, st, d, e, kk, W, R1, R2, q, fo⟩
  unfold inOp at q
  split at q
  · rename_i ys hd
    obtain ⟨h1, h2, q⟩ := q
    obtain ⟨as, r1⟩ := Dp.reads I _ x v (dp_deref W R1 h1) rx
    have ok2 : okD 60 (deref st e) = true := by rw [hd]; exact h2
    have hp := dp_deref W R2 ok2
    rw [hd] at hp
    obtain ⟨bs, r2⟩ := Dp.reads I _ y u hp ry
    refine SeqAt.notIn_list_reads r2 r1 (shape_toPs 59 ys h2).1 (shape_toP 60 _ h1).1 (in_room h1 (Nat.le_refl _) hu _) ⟨.bl _, H, I, rfl, ?_⟩
    rw [any_toPs h1 ys h2]
    exact fo.id q W rep_bl
  · rename_i ys hd
    obtain ⟨h1, h2, q⟩ := q
    obtain ⟨as, r1⟩ := Dp.reads I _ x v (dp_deref W R1 h1) rx
    have ok2 : okD 60 (deref st e) = true := by rw [hd]; exact h2
    have hp := dp_deref W R2 ok2
    rw [hd] at hp
    obtain ⟨bs, r2⟩ := Dp.reads I _ y u hp ry
    refine SeqAt.notIn_tuple_reads r2 r1 (shape_toPs 59 ys h2).1 (shape_toP 60 _ h1).1 (in_room h1 (Nat.le_refl _) hu _) ⟨.bl _, H, I, rfl, ?_⟩
    rw [any_toPs h1 ys h2]
    exact fo.id q W rep_bl
  · exact q.elim
variable {neg : Bool} {d : D} {ys : List D} {st : Sto} {k : DK} {i : Nat}
theorem e_inL : inOp neg d (.lst ys) st k = inK neg (deref st d) ys st k := rfl
theorem e_inKL : inOp neg d (.klst ys) st k = inK neg (deref st d) ys st k := rfl
theorem e_inT : inOp neg d (.tup ys) st k = inK neg (deref st d) ys st k := rfl
theorem e_inO (h : st[i]? = some ys) : inOp neg d (.obj i) st k = inK neg (deref st d) ys st k := by simp [inOp, deref, h]
theorem e_inFlat : inK neg d ys st k = (okD 60 d = true ∧ okDs 59 ys = true ∧ k (.bl (if neg = true then !inD d ys else inD d ys)) st) := rfl
theorem e_drK : deref st (.klst ys) = .lst ys := rfl
theorem in_ints (i : Int) : ∀ xs : List Int, inD (.int i) (xs.map D.int) = decide (i ∈ xs)
  | [] => by simp [inD]
  | x :: r => by
    have ih := in_ints i r
    unfold inD at ih ⊢
    simp only [List.map_cons, List.any_cons]
    rw [ih, show eqD (D.int x) (.int i) = (x == i) by simp only [eqD]]
    by_cases e : x = i
    · subst e; simp
    · rw [show (x == i) = false by simpa using e, Bool.false_or]
      have : i ∈ x :: r ↔ i ∈ r := by
        simp only [List.mem_cons]
        exact ⟨fun h => h.resolve_left fun z => e z.symm, .inr⟩
      simp only [this]
end
section
variable {X : Cx} {es : List Expr} {pos : Pos}
/-- a list taken apart into names -/
def dgUnl (n : Nat) (g : DGs) : DG := fun d env st k => match deref st d with
  | .lst xs => xs.length = n ∧ g xs env st k
  | _ => False
theorem pdg_unl {kk : Nat} {t : DGs} {n : Nat} (hc : X.calm = true) (h : PDGs X es t)
    (hn : (assignEach es X.env).length = n := by rfl) (hst : (assignEach es X.env).findIdx? (·.1) = none := by rfl) : PDG X (.Tuple es kk pos) (dgUnl n t) := by
  refine L2.PG.wk (pg_unl hc h hn hst) fun v σ H Q ⟨w, env, st, d, nx, W, E, R, h, fn⟩ => ?_
  unfold dgUnl at h
  split at h
  · rename_i xs e
    obtain ⟨a, vs, rfl, q, r, _⟩ := rep_lst W R e
    exact ⟨a, vs, rfl, q, by rw [r.length]; exact h.1, w, env, st, xs, nx, W, E, r, h.2, fn⟩
  · exact h.elim
variable {n : Nat} {g : DGs} {xs : List D} {env : DL.Env} {st : Sto} {k : DL.Env → Sto → Prop} {i : Nat}
theorem e_unlL : dgUnl n g (.lst xs) env st k = (xs.length = n ∧ g xs env st k) := rfl
theorem e_unlO (h : st[i]? = some xs) : dgUnl n g (.obj i) env st k = (xs.length = n ∧ g xs env st k) := by simp [dgUnl, deref, h]
end
theorem all_true {α : Type} (xs : List α) (st : Sto) (k : DK) : bAll [.lst (xs.map fun _ => D.bl true)] st k = k (.bl true) st := by
  have e : ∀ xs : List α, blsD (xs.map fun _ => D.bl true) = some (xs.map fun _ => true) := by
    intro xs
    induction xs with
    | nil => rfl
    | cons x r ih =>
      show (blsD (r.map fun _ => D.bl true)).map (true :: ·) = _
      rw [ih]
      rfl
  have a : (xs.map fun _ => true).all id = true := by simp
  show (match deref st (.lst (xs.map fun _ => D.bl true)) with
    | .lst xs => match blsD xs with
      | some bs => k (.bl (bs.all id)) st
      | none => False
    | _ => False) = _
  show (match blsD (xs.map fun _ => D.bl true) with
      | some bs => k (.bl (bs.all id)) st
      | none => False) = _
  rw [e xs]
  show k (.bl ((xs.map fun _ => true).all id)) st = _
  rw [a]
theorem zipD_map {α : Type} (f g : α → D) : ∀ xs : List α, zipD (xs.map f) (xs.map g) = xs.map fun x => .tup [f x, g x]
  | [] => rfl
  | x :: r => by simp only [List.map_cons, zipD, zipD_map f g r]
theorem any_false {α : Type} (xs : List α) (st : Sto) (k : DK) : bAny [.lst (xs.map fun _ => D.bl false)] st k = k (.bl false) st := by
  have e : ∀ xs : List α, blsD (xs.map fun _ => D.bl false) = some (xs.map fun _ => false) := by
    intro xs
    induction xs with
    | nil => rfl
    | cons x r ih =>
      show (blsD (r.map fun _ => D.bl false)).map (false :: ·) = _
      rw [ih]
      rfl
  have a : (xs.map fun _ => false).any id = false := by simp
  show (match blsD (xs.map fun _ => D.bl false) with
      | some bs => k (.bl (bs.any id)) st
      | none => False) = _
  rw [e xs]
  show k (.bl ((xs.map fun _ => false).any id)) st = _
  rw [a]
end DL

/-! len(set(xs)), xs a list of tuples of ints. -/
namespace DL
open PySem PySem.Spec PyProof.Rows L2
section
variable {X : Cx}
def tLenSetT (K : PySem.W.Frag) (ta : TE) : TE := fun σ H Q => ta σ H fun x H1 => ∃ (l : Addr) (ks : List (Addr × List Int)), x = V.ref l ∧ SqL K H1 l (ks.map fun p => V.ref p.1) ∧ (∀ p ∈ ks, SqT K H1 p.1 (p.2.map V.int)) ∧ ks.length < 64 ∧
  ∀ L : List (List Int), L.Nodup → (∀ r, r ∈ L ↔ r ∈ ks.map (·.2)) → Q (.int L.length) H1
theorem pe_lenSetT {a : Expr} {ta : TE} {p p2 q pos : Pos} (hc : X.calm = true) (hu : X.A.units + 64 < cLine) (hg : Gl X "len") (hm : X.mg "len" = none) (hg2 : Gl X "set") (hm2 : X.mg "set" = none) (ha : PE X a ta)
    (na : starEach [a] X.env = (false, eval a X.env) :: starEach [] X.env := by rfl) : PE X (.Call (.Name "len" p) [.Call (.Name "set" p2) [a] [] q] [] pos) (tLenSetT X.K ta) := by
  refine ⟨fun pins s σ H Q I h => ?_⟩
  refine Call_ (ld_blt I hg hm PySem.boot_len ?_)
  refine PyProof.Rows.callWith_builtin1 (PyProof.Rows.args_cons ?_ rfl) rfl rfl
  refine Call_ (ld_blt I hg2 hm2 PyProof.Rows.boot_set ?_)
  refine PyProof.Rows.callWith_type1 (PyProof.Rows.args_cons (thn (ha.run pins s σ H _ I h) fun v s1 ⟨x, H1, I1, r1, q1⟩ => PyProof.Rows.args_nil ?_) na) na rfl
  obtain ⟨l, ks, rfl, hl, hk, hf, q1⟩ := q1
  cases r1
  obtain ⟨its, rv, pl, hz⟩ := I1.list hl
  refine call_set_tups (P := X.prog) (w := X.w) ks (I1.ok.hd hc) pl.isList (by simpa using refs_of_vals rv) (fun p hp => I1.isT (hk p hp)) hf (by omega) fun h' tk L es ep t R g k => ?_
  refine PyProof.Rows.args_nil ?_
  obtain ⟨o, ho, hex, hd⟩ := R.ob
  have I2 : Inv X pins σ H1 { s1 with heap := h', toks := tk } := I1.kept k
  have hn : es.size = L.length := SetTR.size (s := { s1 with heap := h', toks := tk }) R
  have hf2 := SetTR.fits (s := { s1 with heap := h', toks := tk }) R
  have fw := R.few
  have q2 := q1 (L.map (·.2)) R.nd fun r => ⟨fun m => by
    obtain ⟨p, hp, rfl⟩ := List.mem_map.mp m
    exact List.mem_map.mpr ⟨p, List.mem_of_mem_take (g.sub p hp), rfl⟩, fun m => by
    obtain ⟨p, hp, rfl⟩ := List.mem_map.mp m
    exact g.all p (by rw [List.take_length]; exact hp)⟩
  rw [List.length_map] at q2
  refine call_len_set ho hex hd hf2 (by rw [hn]; omega) ⟨.int L.length, H1, I2.tok _, ⟨_, by rw [hn]⟩, q2⟩
def rowD (r : List Int) : D := .tup (r.map D.int)
def lnSetK (k : DK) : DK := fun d s1 => match deref s1 d with
  | .lst xs => ∃ rs : List (List Int), xs = rs.map rowD ∧ rs.length < 64 ∧ ∀ L : List (List Int), L.Nodup → (∀ r, r ∈ L ↔ r ∈ rs) → k (.int L.length) s1
  | _ => False
def dLenSet (t : DE) : DE := fun env st k => t env st (lnSetK k)
theorem rows_of {K : PySem.W.Frag} {w : Wd} {st : Sto} {H : Hp} (W : Wld K w st H) : ∀ (rs : List (List Int)) (us : List V), Reps K w (rs.map rowD) us → ∃ ks : List (Addr × List Int), us = ks.map (fun p => V.ref p.1) ∧ ks.map (·.2) = rs ∧ ∀ p ∈ ks, SqT K H p.1 (p.2.map V.int)
  | [], us, h => ⟨[], h.inv0, rfl, fun p hp => absurd hp List.not_mem_nil⟩
  | r :: rs, us, h => by
    obtain ⟨v, us', rfl, h1, h2⟩ := Reps.inv h
    obtain ⟨ks, rfl, e2, e3⟩ := rows_of W rs us' h2
    obtain ⟨a, vs, rfl, q, rr, _⟩ := rep_tup (st := st) W h1 rfl
    rw [rr.ints] at q
    refine ⟨(a, r) :: ks, rfl, by rw [List.map_cons, e2], fun p hp => ?_⟩
    rcases List.mem_cons.mp hp with rfl | hp
    · exact q
    · exact e3 p hp
variable {e : Expr} {ta : DE} {p p2 pos2 pos : Pos}
theorem pd_lenSet (hc : X.calm = true) (hu : X.A.units + 64 < cLine) (hm : X.mg "len" = none) (hm2 : X.mg "set" = none) (ha : PD X e ta) (hg : Gl X "len" := by rfl) (hg2 : Gl X "set" := by rfl)
    (na : starEach [e] X.env = (false, eval e X.env) :: starEach [] X.env := by rfl) :
    PD X (.Call (.Name "len" p) [.Call (.Name "set" p2) [e] [] pos2] [] pos) (dLenSet ta) := by
  refine (pe_lenSetT hc hu hg hm hg2 hm2 ha na).wk fun σ H Q ⟨w, env, st, kk, W, E, h, fo⟩ => ?_
  refine ⟨w, env, st, _, W, E, h, fun d st1 v w1 H1 h1 l1 W1 R1 => ?_⟩
  unfold lnSetK at h1
  split at h1
  · rename_i xs hd
    obtain ⟨rs, rfl, n64, k1⟩ := h1
    obtain ⟨a, us, rfl, q1, r1, n⟩ := rep_lst W1 R1 hd
    obtain ⟨ks, rfl, e2, e3⟩ := rows_of W1 rs us r1
    refine ⟨a, ks, rfl, q1, e3, by rw [← e2, List.length_map] at n64; exact n64, fun L h1 h2 => ?_⟩
    rw [e2] at h2
    exact (fo.le l1).id (k1 L h1 h2) W1 rep_int
  · exact h1.elim
theorem e_lenSet {env : DL.Env} {st : Sto} {k : DK} : dLenSet ta env st k = ta env st (lnSetK k) := rfl
theorem e_lenSetL {xs : List D} {st : Sto} {k : DK} : lnSetK k (.lst xs) st = ∃ rs : List (List Int), xs = rs.map rowD ∧ rs.length < 64 ∧ ∀ L : List (List Int), L.Nodup → (∀ r, r ∈ L ↔ r ∈ rs) → k (.int L.length) st := rfl
end
end DL

namespace DL
open PySem PySem.Spec PyProof.Rows L2

/-! ### a Hook with looks of one's own beside the head's facts -/
abbrev AlX : Type := Bool × He.AlD
def obsX (ex : List (PySem.W.Frag → Bool)) (fa : List He.Fa) (fn : List He.DefD) (K : PySem.W.Frag) : AlX := (ex.all fun g => g K, He.obsD fa fn K)
def valX (fn : List He.DefD) : AlX := (true, He.valD fn)
def SaysX (ex : List (PySem.W.Frag → Bool)) (fa : List He.Fa) (fn : List He.DefD) (K : PySem.W.Frag) : Prop := obsX ex fa fn K = valX fn
def obsXG (n : Nat) (ex : List (PySem.W.Frag → Bool)) (fa : List He.Fa) (fn : List He.DefD) (g : Addr → Option Obj) : AlX := obsX ex fa fn (He.frG g (He.asD g n))
def hookX (n : Nat) (ex : List (PySem.W.Frag → Bool)) (fa : List He.Fa) (fn : List He.DefD) : PySem.W.Hook where
  α := AlX
  obs := fun s => obsXG n ex fa fn s.heap.get?
  val := fun _ => valX fn
  says := fun _ h => ∃ K : PySem.W.Frag, K.In h ∧ SaysX ex fa fn K
  of := fun _ _ e => ⟨_, He.frG_in, e⟩
  keeps := fun _ _ _ ⟨K, inK, c⟩ kp => ⟨K, PySem.W.Frag.In.keeps inK kp, c⟩
theorem obsXG_eq {n : Nat} {ex : List (PySem.W.Frag → Bool)} {fa : List He.Fa} {fn : List He.DefD} {g : Addr → Option Obj} {s : Shared} (h : ∀ a, g a = s.heap.get? a) : obsXG n ex fa fn g = (hookX n ex fa fn).obs s := by
  rw [show g = s.heap.get? from funext h]
  rfl
section
variable {ex : List (PySem.W.Frag → Bool)} {fa : List He.Fa} {fn : List He.DefD} {K : PySem.W.Frag}
theorem SaysX.d (c : SaysX ex fa fn K) : He.SaysD fa fn K := congrArg (fun z : AlX => z.2) c
theorem SaysX.own (c : SaysX ex fa fn K) (i : Nat) {g : PySem.W.Frag → Bool} (h : ex[i]? = some g := by rfl) : g K = true := by
  have c1 : (ex.all fun g => g K) = true := congrArg (fun z : AlX => z.1) c
  exact List.all_eq_true.mp c1 g (List.mem_of_getElem? h)
end

/-! ### a tuple of the module's head -/
def dvD : He.Dv → D
  | .bl b => .bl b
  | .int i => .int i
  | .str x => .str x
  | _ => .non
def dvS : He.Dv → Bool
  | .non | .bl _ | .int _ | .str _ => true
  | _ => false
/-- the module's name x is a tuple of these -/
def GTup (K : PySem.W.Frag) (mg : Str → Option Value) (x : Str) (ds : List D) : Prop :=
  ∃ (a : Addr) (vs : List V), mg x = some (.ref a) ∧ (∀ H, SqT K H a vs) ∧ ∀ w : Wd, Reps K w ds vs
def gtupB (x : Str) (vs : List He.Dv) (K : PySem.W.Frag) : Bool := eqR (PySem.W.nsIn K mainGlobals x) (He.ga K x) && He.tupB K x vs
where eqR (a : Option (Option Value)) (b : Addr) : Bool := decide (a = some (some (.ref b)))
theorem dv_reps {K : PySem.W.Frag} {w : Wd} : ∀ vs : List He.Dv, vs.all dvS = true → Reps K w (vs.map dvD) (vs.map (He.Dv.v K))
  | [], _ => .nil
  | v :: vs, h => by
    rw [List.all_cons, Bool.and_eq_true] at h
    refine .cons ?_ (dv_reps vs h.2)
    cases v <;> first | (simp only [dvD, He.Dv.v, Rep]; done) | (cases h.1)
theorem gtup_ok {K : PySem.W.Frag} {h : Heap} {mg : Str → Option Value} (X : K.In h) (G : h.Ns mainGlobals mg) {x : Str} {vs : List He.Dv} (c : gtupB x vs K = true) (s : vs.all dvS = true) : GTup K mg x (vs.map dvD) := by
  have c2 := Bool.and_eq_true_iff.mp c
  exact ⟨He.ga K x, vs.map (He.Dv.v K), PySem.W.mg_of X G (of_decide_eq_true c2.1), fun H => He.tupB_ok c2.2 H, fun w => dv_reps vs s⟩
section
variable {X : Cx} {x : Str} {pos : Pos} {ds : List D}
theorem pd_gtup (h : GTup X.K X.mg x ds) (hg : Gl X x := by rfl) (hd : (x == ("__debug__" : Str)) = false := by decide) : PD X (.Name x pos) (dC (.gtup ds)) := by
  obtain ⟨a, vs, hm, hs, hr⟩ := h
  refine pd_of (pe_glob (v := .ref a) hg hm rfl hd) fun w => ?_
  simp only [Rep]
  exact ⟨a, vs, rfl, hs w.G, hr w⟩
end

/-! ### repr -/
/-- what is shown of data -/
def shw (d : D) : Str := (toP d).shown
mutual
/-- how long that may be; numbers below 2 ** 100 -/
def rcost : D → Nat
  | .non => 4
  | .bl _ => 5
  | .int i => if i.natAbs < 2 ^ 100 then 40 else 2 ^ 60
  | .str x => 10 * x.length + 2
  | .lst xs => rcosts xs + 2
  | .tup xs => rcosts xs + 3
  | .klst _ => 2 ^ 60
  | .obj _ => 2 ^ 60
  | .dic _ _ => 2 ^ 60
  | .fdic _ _ => 2 ^ 60
  | .gtup _ => 2 ^ 60
def rcosts : List D → Nat
  | [] => 0
  | x :: xs => rcost x + 2 + rcosts xs
end
/-- data that repr goes through -/
def okR (d : D) : Bool := okD 60 d && decide (rcost d ≤ 16000000)
theorem rcosts_le {c : Nat} : ∀ {xs : List D}, (∀ x ∈ xs, rcost x ≤ c) → rcosts xs ≤ xs.length * (c + 2)
  | [], _ => by simp [rcosts]
  | x :: xs, h => by
    have h1 := h x List.mem_cons_self
    have h2 := rcosts_le (xs := xs) fun y hy => h y (List.mem_cons_of_mem _ hy)
    simp only [rcosts, List.length_cons, Nat.add_mul, Nat.one_mul]
    omega
theorem rcosts_append : ∀ (xs ys : List D), rcosts (xs ++ ys) = rcosts xs + rcosts ys
  | [], ys => by simp [rcosts]
  | x :: xs, ys => by simp only [List.cons_append, rcosts, rcosts_append xs ys]; omega
theorem shown_list (ts : List Str) : (listText ts).length ≤ piled ts + 2 := by
  rw [listText_eq_join]
  rw [strLen_append, strLen_append, show ((("[" : String) : Str)).length = 1 from rfl, show ((("]" : String) : Str)).length = 1 from rfl]
  by_cases h : ts = []
  · subst h
    decide +kernel
  · have := join_length_add ts h
    omega
theorem len_ofString {n : Nat} (x : String) (h : x.length ≤ n) : (Str.ofString x).length ≤ n := by
  rw [PySem.ofString_length]
  exact h
mutual
theorem shown_le : ∀ (n : Nat) (d : D), okD n d = true → rcost d ≤ 16000000 → (toP d).shown.length ≤ rcost d ∧ (toP d).showable = true
  | n, .non, _, _ => by simp only [toP, PyData.shown, PyData.showable, rcost]; exact ⟨by decide +kernel, trivial⟩
  | n, .bl b, _, _ => by simp only [toP, PyData.shown, PyData.showable, rcost]; cases b <;> exact ⟨by decide +kernel, trivial⟩
  | n, .int i, _, c => by
    simp only [toP, PyData.shown, PyData.showable, rcost] at c ⊢
    by_cases h : i.natAbs < 2 ^ 100
    · rw [if_pos h]
      have h10 : i.natAbs < 10 ^ 39 := Nat.lt_trans h (by decide)
      refine ⟨?_, ?_⟩
      · exact len_ofString _ (int_text_length_le10 (k := 39) (by decide) h10)
      · rw [decide_eq_true_eq]
        by_cases z : i.natAbs = 0
        · rw [z]; decide
        · have := (Nat.log2_lt z).mpr h
          omega
    · rw [if_neg h] at c
      exact absurd c (by decide)
  | n, .str x, h, _ => by
    have h' : PyData.strOk x = true := by cases n <;> simpa only [okD] using h
    simp only [toP, PyData.shown, PyData.showable, rcost]
    refine ⟨StrLaws.reprText_len x fun c hc => ?_, trivial⟩
    unfold PyData.strOk at h'
    rw [← Array.all_toList, List.all_eq_true] at h'
    have := of_decide_eq_true (h' c hc)
    omega
  | n, .klst xs, h, _ => by cases n <;> simp [okD] at h
  | n, .obj xs, h, _ => by cases n <;> simp [okD] at h
  | n, .dic _ _, h, _ => by cases n <;> simp [okD] at h
  | n, .fdic _ _, h, _ => by cases n <;> simp [okD] at h
  | n, .gtup _, h, _ => by cases n <;> simp [okD] at h
  | 0, .lst xs, h, _ => by simp [okD] at h
  | n + 1, .lst xs, h, c => by
    simp only [okD] at h
    simp only [rcost] at c ⊢
    obtain ⟨h1, h2⟩ := shown_les n xs h (by omega)
    simp only [toP, PyData.shown, PyData.showable]
    refine ⟨?_, h2⟩
    have := shown_list (PyData.shownAll (toPs xs))
    omega
  | 0, .tup xs, h, _ => by simp [okD] at h
  | n + 1, .tup xs, h, c => by
    simp only [okD] at h
    simp only [rcost] at c ⊢
    obtain ⟨h1, h2⟩ := shown_les n xs h (by omega)
    simp only [toP, PyData.shown, PyData.showable]
    refine ⟨?_, h2⟩
    have := fmt_text (PyData.shownAll (toPs xs))
    omega
theorem shown_les : ∀ (n : Nat) (ds : List D), okDs n ds = true → rcosts ds ≤ 16000000 → piled (PyData.shownAll (toPs ds)) ≤ rcosts ds ∧ PyData.showableAll (toPs ds) = true
  | n, [], _, _ => by simp only [toPs, PyData.shownAll, PyData.showableAll]; exact ⟨Nat.zero_le _, trivial⟩
  | n, x :: xs, h, c => by
    simp only [okDs, Bool.and_eq_true] at h
    simp only [rcosts] at c ⊢
    obtain ⟨h1, h2⟩ := shown_le n x h.1 (by omega)
    obtain ⟨h3, h4⟩ := shown_les n xs h.2 (by omega)
    simp only [toPs, PyData.shownAll, PyData.showableAll, Bool.and_eq_true]
    refine ⟨?_, h2, h4⟩
    rw [piled_cons]
    omega
end
def bRepr : FB := fun ds st k => match ds with
  | [d] => okR (deref st d) = true ∧ k (.str (shw (deref st d))) st
  | _ => False
section
variable {X : Cx}
theorem cb_repr {k : Nat} (hr : RoomG k X.A) : CallR X (.builtin "repr") (rDB X.K bRepr) := by
  intro pins s σ H xs us Q I rs ⟨w, st, ds, kk, W, R, q, fo⟩
  unfold bRepr at q
  split at q
  · rename_i d
    obtain ⟨v, rfl, R1⟩ := one_rep R
    obtain ⟨u, rfl, ru⟩ := vals1 rs
    obtain ⟨ok, q⟩ := q
    unfold okR at ok
    rw [Bool.and_eq_true] at ok
    have ok1 := ok.1
    have ok2 := of_decide_eq_true ok.2
    have hs := shown_le 60 _ ok1 ok2
    have P := dp_deref W R1 ok1
    have sh := shape_toP 60 _ ok1
    obtain ⟨as, rd⟩ := Dp.reads I _ v u P ru
    have hu := hr.toRoom.units
    have fin : ∀ (hp : Heap) (t1 tk : Nat), (∀ b o, s.heap.get? b = some o → hp.get? b = some o) → EP X pins σ Q (.str (toP (deref st d)).shown t1) { s with heap := hp, toks := tk } := fun hp t1 tk kp =>
      ⟨.str _, H, I.kept kp, ⟨t1, rfl⟩, fo _ _ _ _ _ q (.refl w) W rep_str⟩
    have sz : (toP (deref st d)).shown.length ≤ sizeLine := by rw [sizeLine_eq]; omega
    generalize toP (deref st d) = p at *
    have whole : ∀ a, u = Value.ref a → wpAny (model X.prog X.w) X.A (call (.builtin "repr") [u]) (EP X pins σ Q) X.xe s := by
      rintro a rfl
      exact PySem.repr_of_reads' rd hs.2 (PyData.noDict_hsm (PyData.hasDict_of_canLay _ sh.1)) hr.gd (by omega) (fun _ _ e => e) fun hp t1 tk kp => fin hp t1 tk kp
    cases rd with
    | none => exact PySem.P.repr_of_none (fin s.heap _ _ fun _ _ e => e)
    | bool b => exact PySem.P.repr_of_bool (by simpa only [PyData.shown] using fin s.heap s.toks (s.toks + 1) fun _ _ e => e)
    | int i t => exact PySem.P.repr_of_int (by simpa [PyData.showable] using hs.2) (by simpa only [PyData.shown] using fin s.heap s.toks (s.toks + 1) fun _ _ e => e)
    | str x t => exact PySem.P.repr_of_str (by simpa only [PyData.shown] using fin s.heap s.toks (s.toks + 1) fun _ _ e => e) (by simpa only [PyData.shown] using sz)
    | list => exact whole _ rfl
    | tuple => exact whole _ rfl
    | dict => exact whole _ rfl
  · exact q.elim
/-- str of a number -/
def bStr : FB := fun ds st k => match ds with
  | [.int i] => i.natAbs < 2 ^ 100 ∧ k (.str (toString i)) st
  | [.bl b] => k (.str (if b then "True" else "False")) st
  | _ => False
theorem ct_str : CallR X (.type "str") (rDB X.K bStr) := by
  intro pins s σ H xs us Q I rs ⟨w, st, ds, kk, W, R, q, fo⟩
  unfold bStr at q
  split at q
  · obtain ⟨v, rfl, R1⟩ := one_rep R
    obtain ⟨u, rfl, ru⟩ := vals1 rs
    simp only [Rep] at R1
    subst R1
    obtain ⟨t, rfl⟩ := ru
    rename_i i
    refine PySem.P.str_of_int ?_ ⟨.str _, H, I.tok _, ⟨_, rfl⟩, fo _ _ _ _ _ q.2 (.refl w) W rep_str⟩
    by_cases z : i.natAbs = 0
    · rw [z]; decide
    · have := (Nat.log2_lt z).mpr q.1
      omega
  · obtain ⟨v, rfl, R1⟩ := one_rep R
    obtain ⟨u, rfl, ru⟩ := vals1 rs
    simp only [Rep] at R1
    subst R1
    cases ru
    exact PySem.P.str_of_bool ⟨.str _, H, I.tok _, ⟨_, rfl⟩, fo _ _ _ _ _ q (.refl w) W rep_str⟩
  · exact q.elim
end
/-! ### signs of a text that is shown are signs -/
def okC (l : List Nat) : Prop := ∀ c ∈ l, c < 0x110000
theorem strOk_iff {x : Str} : PyData.strOk x = true ↔ okC x.cps.toList := by
  unfold PyData.strOk okC
  rw [← Array.all_toList, List.all_eq_true]
  exact ⟨fun h c hc => of_decide_eq_true (h c hc), fun h c hc => decide_eq_true (h c hc)⟩
theorem okC_app {a b : List Nat} (h : okC a) (g : okC b) : okC (a ++ b) := fun c hc => by
  rcases List.mem_append.mp hc with z | z
  · exact h c z
  · exact g c z
theorem char_lt (c : Char) : c.toNat < 0x110000 := by
  rcases c.valid with h | ⟨_, h⟩
  · exact Nat.lt_trans h (by decide)
  · exact h
theorem okC_chars (l : List Char) : okC (l.map Char.toNat) := fun c hc => by
  obtain ⟨d, _, rfl⟩ := List.mem_map.mp hc
  exact char_lt d
theorem strOk_of (x : String) : PyData.strOk (Str.ofString x) = true := by
  rw [strOk_iff, Str.ofString_eq_toList]
  exact okC_chars _
theorem strOk_app {x y : Str} (h : PyData.strOk x = true) (g : PyData.strOk y = true) : PyData.strOk (x ++ y) = true := by
  rw [strOk_iff] at *
  show okC (x.cps ++ y.cps).toList
  rw [Array.toList_append]
  exact okC_app h g
theorem okC_one {a : Nat} (h : a < 0x110000) : okC [a] := fun c hc => by rw [List.mem_singleton.mp hc]; exact h
theorem okC_two {a b : Nat} (h : a < 0x110000) (g : b < 0x110000) : okC [a, b] := okC_app (okC_one h) (okC_one g)
theorem okC_hex (w c : Nat) : okC (List.replicate (w - ((Nat.toDigits 16 c).map Char.toNat).length) 48 ++ (Nat.toDigits 16 c).map Char.toNat) :=
  okC_app (fun d hd => by rw [(List.mem_replicate.mp hd).2]; decide) (okC_chars _)
theorem reprChar_ok {q c : Nat} (h : c < 0x110000) : okC (Builtin.Str.reprChar q c) := by
  unfold Builtin.Str.reprChar
  dsimp only
  split
  · exact okC_two (by decide) h
  split
  · exact okC_two (by decide) (by decide)
  split
  · exact okC_two (by decide) (by decide)
  split
  · exact okC_two (by decide) (by decide)
  split
  · exact okC_one h
  split
  · exact okC_app (okC_two (by decide) (by decide)) (okC_hex _ _)
  split
  · exact okC_app (okC_two (by decide) (by decide)) (okC_hex _ _)
  · exact okC_app (okC_two (by decide) (by decide)) (okC_hex _ _)
theorem foldl_ok (q : Nat) : ∀ (l : List Nat) (a : Array Nat), okC l → okC a.toList → okC (l.foldl (fun o c => o ++ (Builtin.Str.reprChar q c).toArray) a).toList
  | [], _, _, h => h
  | c :: l, a, h, g => by
    rw [List.foldl_cons]
    refine foldl_ok q l _ (fun d hd => h d (List.mem_cons_of_mem _ hd)) ?_
    rw [Array.toList_append]
    exact okC_app g (reprChar_ok (h c List.mem_cons_self))
theorem reprText_ok {x : Str} (h : PyData.strOk x = true) : PyData.strOk (reprText x) = true := by
  rw [strOk_iff] at *
  have q : reprQuote x < 0x110000 := by unfold reprQuote; split <;> decide
  unfold reprText
  show okC (Array.push _ _).toList
  rw [Array.toList_push, ← Array.foldl_toList]
  exact okC_app (foldl_ok _ _ _ h (okC_one q)) (okC_one q)
theorem join_ok {sep : Str} (hs : PyData.strOk sep = true) : ∀ ts : List Str, (∀ t ∈ ts, PyData.strOk t = true) → PyData.strOk (Str.join sep ts) = true
  | [], _ => strOk_of ""
  | [x], h => h x List.mem_cons_self
  | x :: y :: r, h => by
    show PyData.strOk (x ++ sep ++ Str.join sep (y :: r)) = true
    exact strOk_app (strOk_app (h x List.mem_cons_self) hs) (join_ok hs (y :: r) fun t ht => h t (List.mem_cons_of_mem _ ht))
mutual
theorem shown_ok : ∀ (n : Nat) (d : D), okD n d = true → PyData.strOk (toP d).shown = true
  | n, .non, _ => by simp only [toP, PyData.shown]; decide +kernel
  | n, .bl b, _ => by simp only [toP, PyData.shown]; cases b <;> decide +kernel
  | n, .int i, _ => by simp only [toP, PyData.shown]; exact strOk_of _
  | n, .str x, h => by
    have h' : PyData.strOk x = true := by cases n <;> simpa only [okD] using h
    simp only [toP, PyData.shown]
    exact reprText_ok h'
  | n, .klst xs, h => by cases n <;> simp [okD] at h
  | n, .obj xs, h => by cases n <;> simp [okD] at h
  | n, .dic _ _, h => by cases n <;> simp [okD] at h
  | n, .fdic _ _, h => by cases n <;> simp [okD] at h
  | n, .gtup _, h => by cases n <;> simp [okD] at h
  | 0, .lst xs, h => by simp [okD] at h
  | n + 1, .lst xs, h => by
    simp only [okD] at h
    simp only [toP, PyData.shown]
    rw [listText_eq_join]
    exact strOk_app (strOk_app (strOk_of _) (join_ok (strOk_of _) _ (shown_oks n xs h))) (strOk_of _)
  | 0, .tup xs, h => by simp [okD] at h
  | n + 1, .tup xs, h => by
    simp only [okD] at h
    simp only [toP, PyData.shown]
    unfold tupleText
    refine strOk_app (strOk_app (strOk_of _) (join_ok (strOk_of _) _ (shown_oks n xs h))) ?_
    exact strOk_of _
theorem shown_oks : ∀ (n : Nat) (ds : List D), okDs n ds = true → ∀ t ∈ PyData.shownAll (toPs ds), PyData.strOk t = true
  | n, [], _, t, ht => by simp only [toPs, PyData.shownAll] at ht; cases ht
  | n, x :: xs, h, t, ht => by
    simp only [okDs, Bool.and_eq_true] at h
    simp only [toPs, PyData.shownAll] at ht
    rcases List.mem_cons.mp ht with e | e
    · rw [e]
      exact shown_ok n x h.1
    · exact shown_oks n xs h.2 t e
end
theorem shw_ok {d : D} (h : okR d = true) : PyData.strOk (shw d) = true := by
  unfold okR at h
  rw [Bool.and_eq_true] at h
  exact shown_ok 60 d h.1
theorem okD_int_text (n : Nat) (i : Int) : okD n (.str (toString i)) = true := by
  have := strOk_of (toString i)
  cases n <;> simp only [okD] <;> exact this
section
variable {st : Sto} {k : DK} {xs : List D}
theorem e_reprL : bRepr [.lst xs] st k = (okR (.lst xs) = true ∧ k (.str (shw (.lst xs))) st) := rfl
theorem e_reprT : bRepr [.tup xs] st k = (okR (.tup xs) = true ∧ k (.str (shw (.tup xs))) st) := rfl
theorem e_reprI {i : Int} : bRepr [.int i] st k = (okR (.int i) = true ∧ k (.str (shw (.int i))) st) := rfl
theorem e_reprB {b : Bool} : bRepr [.bl b] st k = (okR (.bl b) = true ∧ k (.str (shw (.bl b))) st) := rfl
theorem e_reprN : bRepr [.non] st k = (okR .non = true ∧ k (.str (shw .non)) st) := rfl
theorem e_reprS {x : Str} : bRepr [.str x] st k = (okR (.str x) = true ∧ k (.str (shw (.str x))) st) := rfl
theorem e_reprG {d : D} (h : deref st d = d) : bRepr [d] st k = (okR d = true ∧ k (.str (shw d)) st) := by
  show (okR (deref st d) = true ∧ k (.str (shw (deref st d))) st) = _
  rw [h]
theorem e_strB {b : Bool} : bStr [.bl b] st k = k (.str (if b then "True" else "False")) st := rfl
theorem e_strI {i : Int} : bStr [.int i] st k = (i.natAbs < 2 ^ 100 ∧ k (.str (toString i)) st) := rfl
end
end DL

/-! enumerate(tuple, s0) -/
namespace DL
open PySem PySem.Spec PyProof.Rows L2
/-- the tuple at a, each item in a new pair -/
def IteF (s0 : Nat) (K : PySem.W.Frag) (a : Addr) : It :=
  ⟨fun n H => ∃ (zs : List V) (u : V), SqT K H a zs ∧ zs[n]? = some u, fun n H v H' => ∃ T u, v = .ref T ∧ H T = none ∧ H' = upd H T (.tup [.int ((n + s0 : Nat) : Int), u]) ∧ ∀ zs, SqT K H a zs → zs[n]? = some u, fun n H => ∃ zs : List V, SqT K H a zs ∧ zs.length = n⟩
theorem turnEnumF {Pg : Program} {w : World} {K : PySem.W.Frag} {elts : List Expr} {kk : Nat} {tpos : Pos} (s0 : Nat) (a en it : Addr) :
    Turn Pg w K (.Tuple elts kk tpos) (IteF s0 K a) [en, it] en (fun n h => (∃ old, IsEnum h en it ((n + s0 : Nat) : Int) old) ∧ h.IsTupleIter it a n ∧ en ≠ it ∧ a ≠ it ∧ a ≠ en) where
  mem := by simp
  obj := fun n h s1 b hb => by
    obtain ⟨⟨old, g1⟩, ⟨o, ho, hc, hd⟩, _⟩ := s1
    have e' : b = en ∨ b = it := by simpa using hb
    rcases e' with rfl | rfl
    · exact ⟨_, g1, fun v q => nomatch q⟩
    · exact ⟨o, ho, fun v q => by rw [hd] at q; cases q⟩
  keep := fun n h h' s1 kp => by
    obtain ⟨⟨old, g1⟩, g2, g3, g4, g5⟩ := s1
    exact ⟨⟨old, kp en (by simp) _ g1⟩, g2.at fun o q => kp it (by simp) o q, g3, g4, g5⟩
  item := by
    intro X hP hw hK hc n pins s σ H E I fps s1 hg
    subst hP hw hK
    obtain ⟨⟨old, g1⟩, g2, g3, g4, g5⟩ := s1
    obtain ⟨zs, u, hq, hu⟩ := hg
    obtain ⟨its, rv, p, hz⟩ := I.tuple hq
    obtain ⟨val, hv, ru⟩ := rv.get hu
    have lt1 : en < s.heap.objs.size := Heap.lt_size g1
    have lt2 : it < s.heap.objs.size := by
      obtain ⟨_, q, _⟩ := g2
      exact Heap.lt_size q
    have hn : n < its.toArray.size := by
      obtain ⟨h', _⟩ := List.getElem?_eq_some_iff.mp hv
      simpa using h'
    refine wpAny_pyNext_enum_itemC (Draws.tuple (A := X.A.in1) (show X.A.in1.handled = none from I.ok.hd hc) it a g4 its.toArray) g1 ⟨g2, p⟩ hn g3 (by simp; exact ⟨g3, Ne.symm g5⟩) fun x h' tk hP ho hst hT hsz hk => ?_
    have hx : x = val := by
      have : its.toArray[n]? = some val := by simpa using hv
      rw [this] at hP
      cases hP
      rfl
    subst hx
    refine ⟨_, rfl, wpAny_letOwnedTupleGo_enum (s := { s with heap := h', toks := tk + 1 }) ho fun h'' he' sb => ?_⟩
    have hT2 : h''.get? s.heap.objs.size = some { cls := .type "tuple", data := .seq #[.int ((n + s0 : Nat) : Int) tk, x] } := (sb.2 _ (Nat.ne_of_gt lt1)).trans hT
    have fresh : ObjOk X.prog X.w (upd H s.heap.objs.size (.tup [.int ((n + s0 : Nat) : Int), u])) h'' s.heap.objs.size (.tup [.int ((n + s0 : Nat) : Int), u]) :=
      ⟨by show 2 ≤ sizeLine; decide, [.int ((n + s0 : Nat) : Int) tk, x], .cons ⟨_, rfl⟩ (.cons ru .nil), ⟨_, hT2, rfl, _, rfl⟩⟩
    have I2 : Inv X pins σ (upd H s.heap.objs.size (.tup [.int ((n + s0 : Nat) : Int), u])) { s with heap := h'', toks := tk + 1 } :=
      I.turnedNew (ch := [en, it]) (fun b o1 hb q => (sb.2 b (fun z => hb (by simp [z]))).trans (hk b o1 (fun z => hb (by simp [z])) (fun z => hb (by simp [z])) q)) fps (Nat.le_refl _) fresh
    refine ⟨.ref s.heap.objs.size, _, I2, rfl, ⟨_, u, rfl, I.hok.fresh (Nat.le_refl _), rfl, fun ys hy => by rw [I.tuple_inj hy hq]; exact hu⟩, ⟨⟨x, ?_⟩, hst.1.at fun o q => (sb.2 it (Ne.symm g3)).trans q, g3, g4, g5⟩, fun b hb => ?_⟩
    · have e1 : ((n + 1 + s0 : Nat) : Int) = ((n + s0 : Nat) : Int) + 1 := by omega
      rw [e1]
      exact he'
    · have hb' : b < s.heap.objs.size := by
        have e' : b = en ∨ b = it := by simpa using hb
        rcases e' with rfl | rfl
        · exact lt1
        · exact lt2
      rw [upd_ne (Nat.ne_of_lt hb')]
      exact (fps b hb).1
  done := by
    intro X hP hw hK hc n pins s σ H E I fps s1 hg
    subst hP hw hK
    obtain ⟨⟨old, g1⟩, g2, g3, g4, g5⟩ := s1
    obtain ⟨zs, hq, hu⟩ := hg
    obtain ⟨its, rv, p, hz⟩ := I.tuple hq
    obtain ⟨f0, f1, f2, f3, f4, f5⟩ := fps it (by simp)
    have hl := rv.length
    have hn : its.toArray.size = n := by
      rw [← hu, hl]
      simp
    subst hn
    exact wpAny_pyNext_enum_endD (Draws.tuple (A := X.A.in1) (show X.A.in1.handled = none from I.ok.hd hc) it a g4 its.toArray) g1 ⟨g2, p⟩ fun h' eb => ⟨rfl, I.turned (t' := s.toks) (fun b o hb q => eb b o hb q) f0 f1 f3 f4 f5⟩
  self := fun A n s Q E s1 h => let ⟨⟨_, g1⟩, _⟩ := s1; wpAny_pyIter_enum g1 h

def iEnumF (s0 : Nat) (K : PySem.W.Frag) (ta : TA) : TI := fun σ H R => ta σ H fun vs H1 => ∃ a xs, vs = [.ref a, .int (s0 : Int)] ∧ SqT K H1 a xs ∧ R (IteF s0 K a) H1
theorem piEnumF {X : Cx} {s0 : Nat} {e e2 : Expr} {ta : TA} {p pos tpos : Pos} {elts : List Expr} {kk : Nat} (h0 : s0 < 1000) (hg : Gl X "enumerate") (hm : X.mg "enumerate" = none) (ha : PA X [e, e2] ta)
    (hs : starEach [e, e2] X.env = (false, eval e X.env) :: starEach [e2] X.env := by rfl) (hpl : (backTo pos (starEach [e2] X.env)).any (·.1) = false := by rfl) :
    PI X (.Tuple elts kk tpos) (.Call (.Name "enumerate" p) [e, e2] [] pos) (iEnumF s0 X.K ta) := by
  refine ⟨fun pins s σ H R I hh => ?_⟩
  refine Call_ (ld_blt I hg hm boot_enumerate (PyProof.Rows.callWith_type1 (thn (ha.run pos pins s σ H _ I hh) fun us z ⟨vs, H1, I1, r1, q1⟩ => ?_) hs hpl))
  obtain ⟨a, xs, ex, hq, q⟩ := q1
  subst ex
  obtain ⟨u1, u2, rfl, r2, r3⟩ := vals2 r1
  cases r2
  obtain ⟨t, rfl⟩ := r3
  have fps : ∀ b, b ∈ [z.heap.objs.size + 1, z.heap.objs.size] → FpOk X pins H1 b := fun b hb => by
    have hle : z.heap.objs.size ≤ b := by
      have e' : b = z.heap.objs.size + 1 ∨ b = z.heap.objs.size := by simpa using hb
      omega
    exact I1.fpOk hle (I1.hok.fresh hle)
  obtain ⟨its, rv, p', hz⟩ := I1.tuple hq
  have la : a < z.heap.objs.size := by
    obtain ⟨_, q, _⟩ := p'
    exact Heap.lt_size q
  refine enum_begins (begins_tuple a its.toArray) p' (by omega) (by omega) fun h' he hit _ hk => wpAny_pyIter_enum he ?_
  have I2 : Inv X pins σ H1 { z with heap := h' } := I1.kept (t' := z.toks) hk
  exact ⟨z.heap.objs.size + 1, [z.heap.objs.size + 1, z.heap.objs.size], _, _, H1, rfl, I2, turnEnumF s0 a _ _, ⟨⟨.none, by rw [Nat.zero_add]; exact he⟩, ⟨_, hit, rfl, rfl⟩, Nat.succ_ne_self _, Nat.ne_of_lt la, Nat.ne_of_lt (Nat.lt_succ_of_lt la)⟩, fps, q⟩
section
variable {K : PySem.W.Frag} {w : Wd} {st : Sto}
theorem wk_enumF (s0 : Nat) {d : D} {a : Addr} {xs : List D} (R : Rep K w d (.ref a)) (e : deref st d = .tup xs) : DWk K (IteF s0 K a) w (enumD s0 xs) [] where
  goes := fun i w1 st1 H1 hi l W1 s => by
    obtain ⟨vs, q, r⟩ := tup_seq R e l W1
    rw [enumD_length] at hi
    exact ⟨vs, vs[i]'(by rw [r.length]; exact hi), q, List.getElem?_eq_getElem _⟩
  stops := fun w1 st1 H1 l W1 s => by
    obtain ⟨vs, q, r⟩ := tup_seq R e l W1
    rw [enumD_length, ← r.length]
    exact ⟨vs, q, rfl⟩
  yields := fun i w1 st1 H1 v H2 hi l W1 s y => by
    obtain ⟨vs, q, r⟩ := tup_seq R e l W1
    rw [enumD_length] at hi
    obtain ⟨T, y, rfl, hT, rfl, h2⟩ := y
    obtain ⟨d', g1, g2⟩ := r.getv (h2 vs q)
    obtain ⟨w2, l2, W2, R2⟩ := pair_put W1 hT (rep_int (a := ((i + s0 : Nat) : Int))) g2
    refine ⟨w2, _, l2, W2, ?_, R2⟩
    rw [enumD_get s0 xs i d' g1, Nat.add_comm]
end
def dEnumF (s0 : Nat) (t : DE) : DI := fun env st kk => t env st fun d s1 => match deref s1 d with
  | .tup xs => xs.length ≤ 16777216 → kk (enumD s0 xs) [] s1
  | _ => False
section
variable {X : Cx} {e : Expr} {ta : DE} {p pos : Pos}
theorem pdi_enumF {elts : List Expr} {k s0 : Nat} {kd} {cpos tpos : Pos} {n : Int} (hn : n = (s0 : Int)) (h0 : s0 < 1000) (hm : X.mg "enumerate" = none) (ha : PD X e ta) (hg : Gl X "enumerate" := by rfl)
    (hs : starEach [e, .Constant (.int n) kd cpos] X.env = (false, eval e X.env) :: starEach [.Constant (.int n) kd cpos] X.env := by rfl) (hpl : (backTo pos (starEach [.Constant (.int n) kd cpos] X.env)).any (·.1) = false := by rfl) (hs2 : starEach [.Constant (.int n) kd cpos] X.env = [(false, eval (.Constant (.int n) kd cpos) X.env)] := by rfl) :
    PDI X (.Tuple elts k tpos) (.Call (.Name "enumerate" p) [e, .Constant (.int n) kd cpos] [] pos) (dEnumF s0 ta) := by
  subst hn
  refine (piEnumF h0 hg hm (pa_cons ha (pa_cons pe_int pa_nil hs2) hs) hs hpl).wk fun σ H R ⟨w, env, st, kk, W, E, h, fo⟩ => ?_
  refine ⟨w, env, st, _, W, E, h, fun d st1 v w1 H1 h1 l1 W1 Rv => ?_⟩
  split at h1
  · rename_i xs hd
    obtain ⟨a, vs, rfl, q, r, n⟩ := rep_tup W1 Rv hd
    exact ⟨a, vs, rfl, q, fo _ _ _ _ _ _ (h1 (by rw [← r.length]; exact line_of n)) l1 W1 (wk_enumF s0 Rv hd)⟩
  · exact h1.elim
end
def enumFK (s0 : Nat) (kk : DIk) : DK := fun d s1 => match deref s1 d with
  | .tup xs => xs.length ≤ 16777216 → kk (enumD s0 xs) [] s1
  | _ => False
theorem e_enumF {s0 : Nat} {t : DE} {env : Env} {st : Sto} {kk : DIk} : dEnumF s0 t env st kk = t env st (enumFK s0 kk) := rfl
theorem e_enumFT {s0 : Nat} {st : Sto} {kk : DIk} {ds : List D} : enumFK s0 kk (.tup ds) st = (ds.length ≤ 16777216 → kk (enumD s0 ds) [] st) := rfl
end DL

/-! DLI: dicts of the store. -/
namespace DL
open PySem PySem.Spec PyProof.Rows L2
/-- a key, whatever the dict's kind -/
def ky (t : Bool) (d : D) : Option (List Key) := if t = true then tkeyD d else (keyD d).map fun k => [k]
def valR (t : Bool) : List D → D → Option D
  | .tup [k', d] :: r, k => if ky t k' = ky t k then some d else valR t r k
  | _, _ => none
def setR (t : Bool) (k d : D) : D → D
  | .tup [k', d'] => if ky t k' = ky t k then .tup [k', d] else .tup [k', d']
  | x => x
theorem setR_row {t : Bool} {k d k' d' : D} : setR t k d (.tup [k', d']) = if ky t k' = ky t k then .tup [k', d] else .tup [k', d'] := rfl
def putR (t : Bool) (rows : List D) (k d : D) : List D :=
  if (valR t rows k).isSome = true then rows.map (setR t k d) else rows ++ [.tup [k, d]]
def dicOf (st : Sto) : D → Option (Bool × List D)
  | .dic t i => (st[i]?).map fun xs => (t, xs)
  | .fdic t rows => some (t, rows)
  | _ => none
section
variable {K : PySem.W.Frag} {w : Wd} {st : Sto} {H : Hp}
def OptR (K : PySem.W.Frag) (w : Wd) : Option D → Option V → Prop
  | some d, some v => Rep K w d v
  | none, none => True
  | _, _ => False
theorem key_rep {d : D} {v : V} {q : Key} (R : Rep K w d v) (h : keyD d = some q) : v = kV q := by
  cases d with
  | int i => cases h; simp only [Rep] at R; subst R; rfl
  | str i => cases h; simp only [Rep] at R; subst R; rfl
  | _ => cases h
theorem keys_rep : ∀ {ds : List D} {vs : List V} {qs : List Key}, Reps K w ds vs → keysD ds = some qs → vs = qs.map kV
  | [], vs, qs, R, h => by
    cases h
    exact R.inv0
  | d :: r, vs, qs, R, h => by
    obtain ⟨v, u, rfl, R1, R2⟩ := R.inv
    unfold keysD at h
    cases h1 : keyD d with
    | none => rw [h1] at h; cases h
    | some y =>
      cases h2 : keysD r with
      | none => rw [h1, h2] at h; cases h
      | some zs =>
        rw [h1, h2] at h
        cases h
        rw [key_rep R1 h1, keys_rep R2 h2]
        rfl
theorem tkey_rep {d : D} {v : V} {q : List Key} (R : Rep K w d v) (h : tkeyD d = some q) : ∃ b, v = .ref b ∧ w.G b = some (.tup (q.map kV)) := by
  cases d with
  | tup xs =>
    simp only [Rep] at R
    obtain ⟨a, vs, rfl, g, r⟩ := R
    rw [keys_rep r h] at g
    exact ⟨a, rfl, g⟩
  | _ => cases h
theorem rowsK_val {k : D} {q : Key} (hk : keyD k = some q) : ∀ {rows : List D} {kvs : List (Key × V)}, RowsK K w rows kvs → OptR K w (valR false rows k) (valV kvs q)
  | [], kvs, h => by
    simp only [RowsK] at h
    subst h
    trivial
  | .tup [k', d] :: r, kvs, h => by
    simp only [RowsK] at h
    obtain ⟨y, v, s, rfl, h1, h2, h3⟩ := h
    unfold valR
    have e : (ky false k' = ky false k) ↔ y = q := by
      unfold ky
      rw [if_neg (by decide), if_neg (by decide), h1, hk]
      simp
    by_cases z : y = q
    · rw [if_pos (e.mpr z), valV_pos z]
      exact h2
    · rw [if_neg (fun x => z (e.mp x)), valV_neg z]
      exact rowsK_val hk h3
  | .tup [] :: _, _, h => by simp only [RowsK] at h
  | .tup [_] :: _, _, h => by simp only [RowsK] at h
  | .tup (_ :: _ :: _ :: _) :: _, _, h => by simp only [RowsK] at h
  | .non :: _, _, h => by simp only [RowsK] at h
  | .bl _ :: _, _, h => by simp only [RowsK] at h
  | .int _ :: _, _, h => by simp only [RowsK] at h
  | .str _ :: _, _, h => by simp only [RowsK] at h
  | .lst _ :: _, _, h => by simp only [RowsK] at h
  | .klst _ :: _, _, h => by simp only [RowsK] at h
  | .obj _ :: _, _, h => by simp only [RowsK] at h
  | .dic _ _ :: _, _, h => by simp only [RowsK] at h
  | .fdic _ _ :: _, _, h => by simp only [RowsK] at h
  | .gtup _ :: _, _, h => by simp only [RowsK] at h
theorem rowsT_val {k : D} {q : List Key} (hk : tkeyD k = some q) : ∀ {rows : List D} {kvs : List (List Key × V)}, RowsT K w rows kvs → OptR K w (valR true rows k) (valV kvs q)
  | [], kvs, h => by
    simp only [RowsT] at h
    subst h
    trivial
  | .tup [k', d] :: r, kvs, h => by
    simp only [RowsT] at h
    obtain ⟨y, v, s, rfl, h1, h2, h3⟩ := h
    unfold valR
    have e : (ky true k' = ky true k) ↔ y = q := by
      unfold ky
      rw [if_pos rfl, if_pos rfl, h1, hk]
      simp
    by_cases z : y = q
    · rw [if_pos (e.mpr z), valV_pos z]
      exact h2
    · rw [if_neg (fun x => z (e.mp x)), valV_neg z]
      exact rowsT_val hk h3
  | .tup [] :: _, _, h => by simp only [RowsT] at h
  | .tup [_] :: _, _, h => by simp only [RowsT] at h
  | .tup (_ :: _ :: _ :: _) :: _, _, h => by simp only [RowsT] at h
  | .non :: _, _, h => by simp only [RowsT] at h
  | .bl _ :: _, _, h => by simp only [RowsT] at h
  | .int _ :: _, _, h => by simp only [RowsT] at h
  | .str _ :: _, _, h => by simp only [RowsT] at h
  | .lst _ :: _, _, h => by simp only [RowsT] at h
  | .klst _ :: _, _, h => by simp only [RowsT] at h
  | .obj _ :: _, _, h => by simp only [RowsT] at h
  | .dic _ _ :: _, _, h => by simp only [RowsT] at h
  | .fdic _ _ :: _, _, h => by simp only [RowsT] at h
  | .gtup _ :: _, _, h => by simp only [RowsT] at h
theorem rowsK_map {k d : D} {q : Key} {v : V} (hk : keyD k = some q) (R : Rep K w d v) : ∀ {rows : List D} {kvs : List (Key × V)}, RowsK K w rows kvs → RowsK K w (rows.map (setR false k d)) (kvs.map fun kv => if kv.1 = q then (kv.1, v) else kv)
  | [], kvs, h => by
    simp only [RowsK] at h
    subst h
    simp only [List.map_nil, RowsK]
  | .tup [k', d'] :: r, kvs, h => by
    simp only [RowsK] at h
    obtain ⟨y, u, s, rfl, h1, h2, h3⟩ := h
    have e : (ky false k' = ky false k) ↔ y = q := by
      unfold ky
      rw [if_neg (by decide), if_neg (by decide), h1, hk]
      simp
    rw [List.map_cons, List.map_cons, setR_row]
    by_cases z : y = q
    · rw [if_pos (e.mpr z), if_pos z]
      simp only [RowsK]
      exact ⟨y, v, _, rfl, h1, R, rowsK_map hk R h3⟩
    · rw [if_neg (fun x => z (e.mp x)), if_neg z]
      simp only [RowsK]
      exact ⟨y, u, _, rfl, h1, h2, rowsK_map hk R h3⟩
  | .tup [] :: _, _, h => by simp only [RowsK] at h
  | .tup [_] :: _, _, h => by simp only [RowsK] at h
  | .tup (_ :: _ :: _ :: _) :: _, _, h => by simp only [RowsK] at h
  | .non :: _, _, h => by simp only [RowsK] at h
  | .bl _ :: _, _, h => by simp only [RowsK] at h
  | .int _ :: _, _, h => by simp only [RowsK] at h
  | .str _ :: _, _, h => by simp only [RowsK] at h
  | .lst _ :: _, _, h => by simp only [RowsK] at h
  | .klst _ :: _, _, h => by simp only [RowsK] at h
  | .obj _ :: _, _, h => by simp only [RowsK] at h
  | .dic _ _ :: _, _, h => by simp only [RowsK] at h
  | .fdic _ _ :: _, _, h => by simp only [RowsK] at h
  | .gtup _ :: _, _, h => by simp only [RowsK] at h
theorem rowsT_map {k d : D} {q : List Key} {v : V} (hk : tkeyD k = some q) (R : Rep K w d v) : ∀ {rows : List D} {kvs : List (List Key × V)}, RowsT K w rows kvs → RowsT K w (rows.map (setR true k d)) (kvs.map fun kv => if kv.1 = q then (kv.1, v) else kv)
  | [], kvs, h => by
    simp only [RowsT] at h
    subst h
    simp only [List.map_nil, RowsT]
  | .tup [k', d'] :: r, kvs, h => by
    simp only [RowsT] at h
    obtain ⟨y, u, s, rfl, h1, h2, h3⟩ := h
    have e : (ky true k' = ky true k) ↔ y = q := by
      unfold ky
      rw [if_pos rfl, if_pos rfl, h1, hk]
      simp
    rw [List.map_cons, List.map_cons, setR_row]
    by_cases z : y = q
    · rw [if_pos (e.mpr z), if_pos z]
      simp only [RowsT]
      exact ⟨y, v, _, rfl, h1, R, rowsT_map hk R h3⟩
    · rw [if_neg (fun x => z (e.mp x)), if_neg z]
      simp only [RowsT]
      exact ⟨y, u, _, rfl, h1, h2, rowsT_map hk R h3⟩
  | .tup [] :: _, _, h => by simp only [RowsT] at h
  | .tup [_] :: _, _, h => by simp only [RowsT] at h
  | .tup (_ :: _ :: _ :: _) :: _, _, h => by simp only [RowsT] at h
  | .non :: _, _, h => by simp only [RowsT] at h
  | .bl _ :: _, _, h => by simp only [RowsT] at h
  | .int _ :: _, _, h => by simp only [RowsT] at h
  | .str _ :: _, _, h => by simp only [RowsT] at h
  | .lst _ :: _, _, h => by simp only [RowsT] at h
  | .klst _ :: _, _, h => by simp only [RowsT] at h
  | .obj _ :: _, _, h => by simp only [RowsT] at h
  | .dic _ _ :: _, _, h => by simp only [RowsT] at h
  | .fdic _ _ :: _, _, h => by simp only [RowsT] at h
  | .gtup _ :: _, _, h => by simp only [RowsT] at h
theorem rowsK_snoc {k d : D} {q : Key} {v : V} (hk : keyD k = some q) (R : Rep K w d v) : ∀ {rows : List D} {kvs : List (Key × V)}, RowsK K w rows kvs → RowsK K w (rows ++ [.tup [k, d]]) (kvs ++ [(q, v)])
  | [], kvs, h => by
    simp only [RowsK] at h
    subst h
    simp only [List.nil_append, RowsK]
    exact ⟨q, v, [], rfl, hk, R, rfl⟩
  | .tup [k', d'] :: r, kvs, h => by
    simp only [RowsK] at h
    obtain ⟨y, u, s, rfl, h1, h2, h3⟩ := h
    simp only [List.cons_append, RowsK]
    exact ⟨y, u, _, rfl, h1, h2, rowsK_snoc hk R h3⟩
  | .tup [] :: _, _, h => by simp only [RowsK] at h
  | .tup [_] :: _, _, h => by simp only [RowsK] at h
  | .tup (_ :: _ :: _ :: _) :: _, _, h => by simp only [RowsK] at h
  | .non :: _, _, h => by simp only [RowsK] at h
  | .bl _ :: _, _, h => by simp only [RowsK] at h
  | .int _ :: _, _, h => by simp only [RowsK] at h
  | .str _ :: _, _, h => by simp only [RowsK] at h
  | .lst _ :: _, _, h => by simp only [RowsK] at h
  | .klst _ :: _, _, h => by simp only [RowsK] at h
  | .obj _ :: _, _, h => by simp only [RowsK] at h
  | .dic _ _ :: _, _, h => by simp only [RowsK] at h
  | .fdic _ _ :: _, _, h => by simp only [RowsK] at h
  | .gtup _ :: _, _, h => by simp only [RowsK] at h
theorem rowsT_snoc {k d : D} {q : List Key} {v : V} (hk : tkeyD k = some q) (R : Rep K w d v) : ∀ {rows : List D} {kvs : List (List Key × V)}, RowsT K w rows kvs → RowsT K w (rows ++ [.tup [k, d]]) (kvs ++ [(q, v)])
  | [], kvs, h => by
    simp only [RowsT] at h
    subst h
    simp only [List.nil_append, RowsT]
    exact ⟨q, v, [], rfl, hk, R, rfl⟩
  | .tup [k', d'] :: r, kvs, h => by
    simp only [RowsT] at h
    obtain ⟨y, u, s, rfl, h1, h2, h3⟩ := h
    simp only [List.cons_append, RowsT]
    exact ⟨y, u, _, rfl, h1, h2, rowsT_snoc hk R h3⟩
  | .tup [] :: _, _, h => by simp only [RowsT] at h
  | .tup [_] :: _, _, h => by simp only [RowsT] at h
  | .tup (_ :: _ :: _ :: _) :: _, _, h => by simp only [RowsT] at h
  | .non :: _, _, h => by simp only [RowsT] at h
  | .bl _ :: _, _, h => by simp only [RowsT] at h
  | .int _ :: _, _, h => by simp only [RowsT] at h
  | .str _ :: _, _, h => by simp only [RowsT] at h
  | .lst _ :: _, _, h => by simp only [RowsT] at h
  | .klst _ :: _, _, h => by simp only [RowsT] at h
  | .obj _ :: _, _, h => by simp only [RowsT] at h
  | .dic _ _ :: _, _, h => by simp only [RowsT] at h
  | .fdic _ _ :: _, _, h => by simp only [RowsT] at h
  | .gtup _ :: _, _, h => by simp only [RowsT] at h
theorem optR_some {o : Option D} {u : Option V} (h : OptR K w o u) : o.isSome = u.isSome := by
  cases o <;> cases u <;> first | rfl | exact h.elim
theorem rowsK_put {k d : D} {q : Key} {v : V} (hk : keyD k = some q) (R : Rep K w d v) {rows : List D} {kvs : List (Key × V)} (h : RowsK K w rows kvs) : RowsK K w (putR false rows k d) (putK kvs q v) := by
  unfold putR putK
  rw [valV_any, ← optR_some (rowsK_val hk h)]
  split
  · exact rowsK_map hk R h
  · exact rowsK_snoc hk R h
theorem rowsT_put {k d : D} {q : List Key} {v : V} (hk : tkeyD k = some q) (R : Rep K w d v) {rows : List D} {kvs : List (List Key × V)} (h : RowsT K w rows kvs) : RowsT K w (putR true rows k d) (putK kvs q v) := by
  unfold putR putK
  rw [valV_any, ← optR_some (rowsT_val hk h)]
  split
  · exact rowsT_map hk R h
  · exact rowsT_snoc hk R h
theorem rowsK_length : ∀ {rows : List D} {kvs : List (Key × V)}, RowsK K w rows kvs → rows.length = kvs.length
  | [], kvs, h => by
    simp only [RowsK] at h
    subst h
    rfl
  | .tup [k', d'] :: r, kvs, h => by
    simp only [RowsK] at h
    obtain ⟨y, u, s, rfl, h1, h2, h3⟩ := h
    rw [List.length_cons, List.length_cons, rowsK_length h3]
  | .tup [] :: _, _, h => by simp only [RowsK] at h
  | .tup [_] :: _, _, h => by simp only [RowsK] at h
  | .tup (_ :: _ :: _ :: _) :: _, _, h => by simp only [RowsK] at h
  | .non :: _, _, h => by simp only [RowsK] at h
  | .bl _ :: _, _, h => by simp only [RowsK] at h
  | .int _ :: _, _, h => by simp only [RowsK] at h
  | .str _ :: _, _, h => by simp only [RowsK] at h
  | .lst _ :: _, _, h => by simp only [RowsK] at h
  | .klst _ :: _, _, h => by simp only [RowsK] at h
  | .obj _ :: _, _, h => by simp only [RowsK] at h
  | .dic _ _ :: _, _, h => by simp only [RowsK] at h
  | .fdic _ _ :: _, _, h => by simp only [RowsK] at h
  | .gtup _ :: _, _, h => by simp only [RowsK] at h
theorem rowsT_length : ∀ {rows : List D} {kvs : List (List Key × V)}, RowsT K w rows kvs → rows.length = kvs.length
  | [], kvs, h => by
    simp only [RowsT] at h
    subst h
    rfl
  | .tup [k', d'] :: r, kvs, h => by
    simp only [RowsT] at h
    obtain ⟨y, u, s, rfl, h1, h2, h3⟩ := h
    rw [List.length_cons, List.length_cons, rowsT_length h3]
  | .tup [] :: _, _, h => by simp only [RowsT] at h
  | .tup [_] :: _, _, h => by simp only [RowsT] at h
  | .tup (_ :: _ :: _ :: _) :: _, _, h => by simp only [RowsT] at h
  | .non :: _, _, h => by simp only [RowsT] at h
  | .bl _ :: _, _, h => by simp only [RowsT] at h
  | .int _ :: _, _, h => by simp only [RowsT] at h
  | .str _ :: _, _, h => by simp only [RowsT] at h
  | .lst _ :: _, _, h => by simp only [RowsT] at h
  | .klst _ :: _, _, h => by simp only [RowsT] at h
  | .obj _ :: _, _, h => by simp only [RowsT] at h
  | .dic _ _ :: _, _, h => by simp only [RowsT] at h
  | .fdic _ _ :: _, _, h => by simp only [RowsT] at h
  | .gtup _ :: _, _, h => by simp only [RowsT] at h
/-- the object of a dict -/
theorem dic_obj {d : D} {v : V} {t : Bool} {rows : List D} (W : Wld K w st H) (R : Rep K w d v) (e : dicOf st d = some (t, rows)) : ∃ a o, v = .ref a ∧ H a = some o ∧ EntR K w (some t) rows o := by
  cases d with
  | dic t' i =>
    simp only [Rep] at R
    obtain ⟨a, rfl, q, q2⟩ := R
    obtain ⟨g, ys, o, h1, h2, h3⟩ := W.at_ i a q
    have e' : (st[i]?).map (fun xs => (t', xs)) = some (t, rows) := e
    rw [h1] at e'
    cases e'
    rw [q2] at h3
    exact ⟨a, o, rfl, h2, h3⟩
  | fdic t' rs =>
    cases e
    cases t with
    | false =>
      simp only [Rep] at R
      obtain ⟨a, kvs, rfl, q, n, r⟩ := R
      exact ⟨a, _, rfl, W.same _ _ q, kvs, rfl, n, r⟩
    | true =>
      simp only [Rep] at R
      obtain ⟨a, kvs, rfl, q, n, r⟩ := R
      exact ⟨a, _, rfl, W.same _ _ q, kvs, rfl, n, r⟩
  | _ => cases e
theorem dic_isD {d : D} {v : V} {t : Bool} {rows : List D} (W : Wld K w st H) (R : Rep K w d v) (e : dicOf st d = some (t, rows)) : ∃ a, v = .ref a ∧ IsD H a := by
  obtain ⟨a, o, rfl, h, r⟩ := dic_obj W R e
  cases t with
  | false =>
    obtain ⟨kvs, rfl, _⟩ := r
    exact ⟨a, rfl, .inl ⟨kvs, .inl h⟩⟩
  | true =>
    obtain ⟨kvs, rfl, _⟩ := r
    exact ⟨a, rfl, .inr ⟨kvs, .inl h⟩⟩
/-- what a dict holds at a key -/
theorem dic_get {d k : D} {v y : V} {t : Bool} {rows : List D} (W : Wld K w st H) (R : Rep K w d v) (e : dicOf st d = some (t, rows)) (Rk : Rep K w k y) (hk : (ky t k).isSome = true) : ∃ a o, v = .ref a ∧ DGet H a y o ∧ OptR K w (valR t rows k) o := by
  obtain ⟨a, o, rfl, h, r⟩ := dic_obj W R e
  cases t with
  | false =>
    obtain ⟨kvs, rfl, _, r⟩ := r
    cases hq : keyD k with
    | none =>
      unfold ky at hk
      rw [if_neg (by decide), hq] at hk
      cases hk
    | some q =>
      rw [key_rep Rk hq]
      exact ⟨a, _, rfl, .k h, rowsK_val hq r⟩
  | true =>
    obtain ⟨kvs, rfl, _, r⟩ := r
    cases hq : tkeyD k with
    | none =>
      unfold ky at hk
      rw [if_pos rfl, hq] at hk
      cases hk
    | some q =>
      obtain ⟨b, rfl, g⟩ := tkey_rep Rk hq
      exact ⟨a, _, rfl, .t h (W.same _ _ g), rowsT_val hq r⟩
/-- the heap behind d[k] = x -/
theorem dic_put {k x : D} {v y u : V} {t : Bool} {i : Nat} {rows : List D} (W : Wld K w st H) (R : Rep K w (.dic t i) v) (e : st[i]? = some rows) (Rk : Rep K w k y) (hk : (ky t k).isSome = true) (Rx : Rep K w x u) (hn : rows.length < 16777216) :
    ∃ a H', v = .ref a ∧ DPut H a y u H' ∧ Wld K w (st.set i (putR t rows k x)) H' := by
  simp only [Rep] at R
  obtain ⟨a, rfl, q, q2⟩ := R
  obtain ⟨g, ys, o, h1, h2, h3⟩ := W.at_ i a q
  rw [e] at h1
  cases h1
  rw [q2] at h3
  cases t with
  | false =>
    obtain ⟨kvs, rfl, _, r⟩ := h3
    cases hq : keyD k with
    | none =>
      unfold ky at hk
      rw [if_neg (by decide), hq] at hk
      cases hk
    | some z =>
      rw [key_rep Rk hq]
      have hl : kvs.length < sizeLine := by rw [← rowsK_length r, sizeLine_eq]; exact hn
      refine ⟨a, _, rfl, .k h2 hl, W.wrK q ?_⟩
      rw [q2]
      exact ⟨_, rfl, by have := length_putK kvs z u; omega, rowsK_put hq Rx r⟩
  | true =>
    obtain ⟨kvs, rfl, _, r⟩ := h3
    cases hq : tkeyD k with
    | none =>
      unfold ky at hk
      rw [if_pos rfl, hq] at hk
      cases hk
    | some z =>
      obtain ⟨b, rfl, gb⟩ := tkey_rep Rk hq
      have hl : kvs.length < sizeLine := by rw [← rowsT_length r, sizeLine_eq]; exact hn
      refine ⟨a, _, rfl, .t h2 (W.same _ _ gb) hl, W.wrK q ?_⟩
      rw [q2]
      exact ⟨_, rfl, by have := length_putK kvs z u; omega, rowsT_put hq Rx r⟩
end

/-! ### readings -/
/-- {} -/
def dNewD (t : Bool) : DE := fun _ st k => k (.dic t st.length) (st ++ [[]])
def getD (d y : D) (st : Sto) (k : DK) : Prop := match dicOf st d with
  | some (t, rows) => (ky t y).isSome = true ∧ ∃ x, valR t rows y = some x ∧ k x st
  | none => False
def getOrD (x : D) (d y : D) (st : Sto) (k : DK) : Prop := match dicOf st d with
  | some (t, rows) => (ky t y).isSome = true ∧ k ((valR t rows y).getD x) st
  | none => False
def inDic (neg : Bool) (y d : D) (st : Sto) (k : DK) : Prop := match dicOf st d with
  | some (t, rows) => (ky t y).isSome = true ∧ k (.bl (if neg then !(valR t rows y).isSome else (valR t rows y).isSome)) st
  | none => False
def putD (o i v : D) (st : Sto) (k : Sto → Prop) : Prop := match o with
  | .dic t j => match st[j]? with
    | some rows => (ky t i).isSome = true ∧ rows.length < 16777216 ∧ k (st.set j (putR t rows i v))
    | none => False
  | _ => False
/-- d.get(y), d.get(y, x) -/
def dGet1 (td ty : DE) : DE := fun env st k => td env st fun d s1 => (dicOf s1 d).isSome = true ∧ ty env s1 fun y s2 => getOrD .non d y s2 k
def dGet2 (td ty tx : DE) : DE := fun env st k => td env st fun d s1 => (dicOf s1 d).isSome = true ∧ ty env s1 fun y s2 => tx env s2 fun x s3 => getOrD x d y s3 k
/-- d.setdefault(y, x), keys numbers and texts -/
def setdD (d y x : D) (st : Sto) (k : DK) : Prop := match d with
  | .dic false i => match st[i]? with
    | some rows => (ky false y).isSome = true ∧ rows.length < 16777216 ∧ match valR false rows y with
      | some v => k v st
      | none => k x (st.set i (putR false rows y x))
    | none => False
  | _ => False
def dSetd (td ty tx : DE) : DE := fun env st k => td env st fun d s1 => (dicOf s1 d).isSome = true ∧ ty env s1 fun y s2 => tx env s2 fun x s3 => setdD d y x s3 k
def dgPut (to ti : DE) : DG := fun v env st k => to env st fun o s1 => ti env s1 fun i s2 => putD o i v s2 fun s3 => k env s3
section
variable {X : Cx} {o i e f : Expr} {pos apos cpos : Pos} {to ti td ty tx : DE}
theorem pd_dnewK : PD X (.Dict [] [] pos) (dNewD false) := by
  refine pe_dnewK.wk fun σ H Q ⟨w, env, st, kk, W, E, h, fo⟩ p hp => ?_
  refine fo _ _ _ _ _ h (Le.addK (W.nas hp)) (W.addK hp (k := some false) ⟨[], rfl, Nat.zero_le _, by simp only [RowsK]⟩) ?_
  simp only [Rep]
  refine ⟨p, rfl, ?_, if_pos rfl⟩
  show (w.as ++ [p])[st.length]? = some p
  rw [← W.len, List.getElem?_concat_length]
theorem pd_dnewT : PD X (.Dict [] [] pos) (dNewD true) := by
  refine pe_dnewT.wk fun σ H Q ⟨w, env, st, kk, W, E, h, fo⟩ p hp => ?_
  refine fo _ _ _ _ _ h (Le.addK (W.nas hp)) (W.addK hp (k := some true) ⟨[], rfl, Nat.zero_le _, by simp only [RowsT]⟩) ?_
  simp only [Rep]
  refine ⟨p, rfl, ?_, if_pos rfl⟩
  show (w.as ++ [p])[st.length]? = some p
  rw [← W.len, List.getElem?_concat_length]
theorem pd_dget (hu : X.A.units + 64 < cLine) (ho : PD X o to) (hi : PD X i ti) (hs : NoSl i := by exact fun _ _ => rfl) : PD X (.Subscript o i pos) (dOp getD to ti) := by
  refine (pe_dget (by omega) ho hi hs).wk fun σ H Q ⟨w, env, st, kk, W, E, h, fo⟩ => ?_
  refine ⟨w, env, st, _, W, E, h, fun d st1 v w1 H1 h1 l1 W1 R1 => ⟨w1, env, st1, _, W1, E.mono l1, h1, fun y st2 u w2 H2 h2 l2 W2 R2 => ?_⟩⟩
  unfold getD at h2
  split at h2
  · rename_i t rows hd
    obtain ⟨hk, x, hx, h2⟩ := h2
    obtain ⟨a, ov, rfl, g, r⟩ := dic_get W2 (Rep.mono l2 _ _ R1) hd R2 hk
    rw [hx] at r
    cases ov with
    | none => exact r.elim
    | some z => exact ⟨a, z, rfl, g, fo _ _ _ _ _ h2 (l1.trans l2) W2 r⟩
  · exact h2.elim
theorem dop_inDic (hu : X.A.units + 64 < cLine) : OpR X (compareOp .In) (rD X.K (inDic false)) := by
  rintro pins s σ H x y v u Q I rx ry ⟨w, st, d, e, kk, W, R1, R2, q, fo⟩
  unfold inDic at q
  split at q
  · rename_i t rows hd
    obtain ⟨a, ov, rfl, g, r⟩ := dic_get W R2 hd R1 q.1
    cases ry
    refine d_in (by omega) I g rx fun s' I' => ⟨.bl ov.isSome, H, I', rfl, fo _ _ _ _ _ q.2 (.refl _) W ?_⟩
    rw [if_neg (by decide), optR_some r]
    exact rep_bl
  · exact q.elim
theorem dop_notinDic (hu : X.A.units + 64 < cLine) : OpR X (compareOp .NotIn) (rD X.K (inDic true)) := by
  rintro pins s σ H x y v u Q I rx ry ⟨w, st, d, e, kk, W, R1, R2, q, fo⟩
  unfold inDic at q
  split at q
  · rename_i t rows hd
    obtain ⟨a, ov, rfl, g, r⟩ := dic_get W R2 hd R1 q.1
    cases ry
    refine d_notIn (by omega) I g rx fun s' I' => ⟨.bl (!ov.isSome), H, I', rfl, fo _ _ _ _ _ q.2 (.refl _) W ?_⟩
    rw [if_pos rfl, optR_some r]
    exact rep_bl
  · exact q.elim
theorem isD_of {K : PySem.W.Frag} {w : Wd} {st : Sto} {H : Hp} {d : D} {v : V} (W : Wld K w st H) (R : Rep K w d v) (h : (dicOf st d).isSome = true) : ∃ a, v = .ref a ∧ IsD H a := by
  cases e : dicOf st d with
  | none => rw [e] at h; cases h
  | some p => exact dic_isD W R (t := p.1) (rows := p.2) e
theorem getD_optR {K : PySem.W.Frag} {w : Wd} {a : Option D} {b : Option V} {x : D} {z : V} (r : OptR K w a b) (R : Rep K w x z) : Rep K w (a.getD x) (b.getD z) := by
  cases a <;> cases b <;> first | exact R | exact r | exact r.elim
theorem pd_dget1 (hu : X.A.units + 64 < cLine) (ho : PD X o td) (he : PD X e ty)
    (b : attributeBase o "get" X.env (eval o X.env) = eval o X.env := by rfl)
    (f1 : ((backTo cpos (starEach [e] X.env)).all (fun x => !x.1) && (backToKw cpos (keywordEach [] X.env)).all (fun x => x.1.isSome)
      && decide (([e] : List Expr).length + ([] : List Keyword).length + (if ([] : List Keyword).isEmpty then 0 else 1) < 30)) = true := by rfl)
    (l : (apos.endLine == cpos.line) = true := by rfl) (tr : backTo cpos (starEach [e] X.env) = [(false, eval e X.env)] := by rfl) : PD X (.Call (.Attribute o "get" apos) [e] [] cpos) (dGet1 td ty) := by
  refine (pe_dget1 (by omega) ho he ⟨b, f1, l, tr⟩).wk fun σ H Q ⟨w, env, st, kk, W, E, h, fo⟩ => ?_
  refine ⟨w, env, st, _, W, E, h, fun d st1 v w1 H1 ⟨hd1, h1⟩ l1 W1 R1 => ?_⟩
  obtain ⟨a, rfl, isd⟩ := isD_of W1 R1 hd1
  refine ⟨a, rfl, isd, w1, env, st1, _, W1, E.mono l1, h1, fun y st2 u w2 H2 h2 l2 W2 R2 => ?_⟩
  unfold getOrD at h2
  split at h2
  · rename_i t rows hd
    obtain ⟨a', ov, ea, g, r⟩ := dic_get W2 (Rep.mono l2 _ _ R1) hd R2 h2.1
    cases ea
    exact ⟨ov, g, fo _ _ _ _ _ h2.2 (l1.trans l2) W2 (getD_optR r rep_non)⟩
  · exact h2.elim
theorem pd_dget2 (hu : X.A.units + 64 < cLine) (ho : PD X o td) (he : PD X e ty) (hf : PD X f tx)
    (b : attributeBase o "get" X.env (eval o X.env) = eval o X.env := by rfl)
    (f1 : ((backTo cpos (starEach [e, f] X.env)).all (fun x => !x.1) && (backToKw cpos (keywordEach [] X.env)).all (fun x => x.1.isSome)
      && decide (([e, f] : List Expr).length + ([] : List Keyword).length + (if ([] : List Keyword).isEmpty then 0 else 1) < 30)) = true := by rfl)
    (l : (apos.endLine == cpos.line) = true := by rfl) (tr : backTo cpos (starEach [e, f] X.env) = [(false, eval e X.env), (false, eval f X.env)] := by rfl) : PD X (.Call (.Attribute o "get" apos) [e, f] [] cpos) (dGet2 td ty tx) := by
  refine (pe_dget2 (by omega) ho he hf ⟨b, f1, l, tr⟩).wk fun σ H Q ⟨w, env, st, kk, W, E, h, fo⟩ => ?_
  refine ⟨w, env, st, _, W, E, h, fun d st1 v w1 H1 ⟨hd1, h1⟩ l1 W1 R1 => ?_⟩
  obtain ⟨a, rfl, isd⟩ := isD_of W1 R1 hd1
  refine ⟨a, rfl, isd, w1, env, st1, _, W1, E.mono l1, h1, fun y st2 u w2 H2 h2 l2 W2 R2 => ⟨w2, env, st2, _, W2, (E.mono l1).mono l2, h2, fun x st3 z w3 H3 h3 l3 W3 R3 => ?_⟩⟩
  unfold getOrD at h3
  split at h3
  · rename_i t rows hd
    obtain ⟨a', ov, ea, g, r⟩ := dic_get W3 (Rep.mono (l2.trans l3) _ _ R1) hd (Rep.mono l3 _ _ R2) h3.1
    cases ea
    exact ⟨ov, g, fo _ _ _ _ _ h3.2 ((l1.trans l2).trans l3) W3 (getD_optR r R3)⟩
  · exact h3.elim
theorem pd_dsetd (ho : PD X o td) (he : PD X e ty) (hf : PD X f tx)
    (b : attributeBase o "setdefault" X.env (eval o X.env) = eval o X.env := by rfl)
    (f1 : ((backTo cpos (starEach [e, f] X.env)).all (fun x => !x.1) && (backToKw cpos (keywordEach [] X.env)).all (fun x => x.1.isSome)
      && decide (([e, f] : List Expr).length + ([] : List Keyword).length + (if ([] : List Keyword).isEmpty then 0 else 1) < 30)) = true := by rfl)
    (l : (apos.endLine == cpos.line) = true := by rfl) (tr : backTo cpos (starEach [e, f] X.env) = [(false, eval e X.env), (false, eval f X.env)] := by rfl) : PD X (.Call (.Attribute o "setdefault" apos) [e, f] [] cpos) (dSetd td ty tx) := by
  refine (pe_dsetd ho he hf ⟨b, f1, l, tr⟩).wk fun σ H Q ⟨w, env, st, kk, W, E, h, fo⟩ => ?_
  refine ⟨w, env, st, _, W, E, h, fun d st1 v w1 H1 ⟨hd1, h1⟩ l1 W1 R1 => ?_⟩
  obtain ⟨a, rfl, isd⟩ := isD_of W1 R1 hd1
  refine ⟨a, rfl, isd, w1, env, st1, _, W1, E.mono l1, h1, fun y st2 u w2 H2 h2 l2 W2 R2 => ⟨w2, env, st2, _, W2, (E.mono l1).mono l2, h2, fun x st3 z w3 H3 h3 l3 W3 R3 => ?_⟩⟩
  unfold setdD at h3
  split at h3
  · split at h3
    · rename_i rows hi
      obtain ⟨hk, hn, h3⟩ := h3
      have R13 := Rep.mono (l2.trans l3) _ _ R1
      simp only [Rep] at R13
      obtain ⟨a', ea, q, q2⟩ := R13
      cases ea
      obtain ⟨g, ys, ob, k1, k2, k3⟩ := W3.at_ _ a q
      rw [hi] at k1
      cases k1
      rw [q2] at k3
      obtain ⟨kvs, rfl, nn, r⟩ := k3
      cases hq : keyD y with
      | none =>
        unfold ky at hk
        rw [if_neg (by decide), hq] at hk
        cases hk
      | some y' =>
        have ov := rowsK_val hq r
        have hl : kvs.length < sizeLine := by rw [← rowsK_length r, sizeLine_eq]; exact hn
        refine ⟨kvs, y', k2, key_rep R2 hq, hl, fun v hv => ?_, fun hv => ?_⟩
        · rw [hv] at ov
          cases ev : valR false rows y with
          | none => rw [ev] at ov; exact ov.elim
          | some v' =>
            rw [ev] at ov h3
            exact fo _ _ _ _ _ h3 ((l1.trans l2).trans l3) W3 ov
        · rw [hv] at ov
          cases ev : valR false rows y with
          | some v' => rw [ev] at ov; exact ov.elim
          | none =>
            rw [ev] at h3
            refine fo _ _ _ _ _ h3 ((l1.trans l2).trans l3) (W3.wrK q ?_) R3
            rw [q2]
            exact ⟨_, rfl, by have := length_putK kvs y' z; omega, rowsK_put hq R3 r⟩
    · exact h3.elim
  · exact h3.elim
/-- the setter of a dict's items -/
def rSetD (K : PySem.W.Frag) : TSet := fun x y v H Q => ∃ a H', x = .ref a ∧ DPut H a y v H' ∧ Q H'
theorem set_dict (hu : X.A.units + 64 < cLine) : PSet X (rSetD X.K) := by
  rintro pins s σ H x y v xv yv u Q I rx ry rv ⟨a, H', rfl, g, q⟩
  cases rx
  exact d_setItem (by omega) I g ry rv fun s' I' => ⟨H', I', q⟩
theorem pdg_put (hu : X.A.units + 64 < cLine) (ho : PD X o to) (hi : PD X i ti)
    (ha : ∀ v, assign (.Subscript o i pos) X.env v = (do
      let ov ← holding [v] (eval o X.env)
      let iv ← holding [v, ov] (eval i X.env)
      standAt pos
      holding [v, ov, iv] (setItem ov iv v)
      release [v, ov, iv] []) := by intro _; rfl) : PDG X (.Subscript o i pos) (dgPut to ti) := by
  refine L2.PG.wk (pg_sub ho hi (set_dict hu) ha) fun v σ H Q ⟨w, env, st, d, nx, W, E, R, h, fn⟩ => ?_
  refine ⟨w, env, st, _, W, E, h, fun d1 st1 v1 w1 H1 h1 l1 W1 R1 => ⟨w1, env, st1, _, W1, E.mono l1, h1, fun d2 st2 v2 w2 H2 h2 l2 W2 R2 => ?_⟩⟩
  unfold putD at h2
  split at h2
  · split at h2
    · rename_i rows hj
      obtain ⟨hk, hn, h2⟩ := h2
      obtain ⟨a, H', rfl, g, W3⟩ := dic_put W2 (Rep.mono l2 _ _ R1) hj R2 hk (Rep.mono (l1.trans l2) _ _ R) hn
      exact ⟨a, H', rfl, g, fn _ _ _ _ _ h2 (l1.trans l2) W3 (E.mono (l1.trans l2))⟩
    · exact h2.elim
  · exact h2.elim
end
end DL

/-! DLJ: sorted of a dict's keys and of its values. -/
namespace DL
open PySem PySem.Spec PyProof.Rows L2
def keysR : List D → List D
  | .tup [k, _] :: r => k :: keysR r
  | _ => []
def valsR : List D → List D
  | .tup [_, v] :: r => v :: valsR r
  | _ => []
/-- sorted(d), keys all numbers -/
def bSortedD : FB := fun ds st k => match ds with
  | [d] => match dicOf st d with
    | some (false, rows) => match intsD (keysR rows) with
      | some ns => ns.length < 64 ∧ k (.lst ((sortZ ns).map D.int)) st
      | none => False
    | _ => False
  | _ => False
section
variable {K : PySem.W.Frag} {w : Wd} {st : Sto} {H : Hp} {X : Cx}
theorem rowsK_keys : ∀ {rows : List D} {kvs : List (Key × V)} {ns : List Int}, RowsK K w rows kvs → intsD (keysR rows) = some ns → kvs.map (·.1) = ns.map Sum.inl
  | [], kvs, ns, h, e => by
    simp only [RowsK] at h
    subst h
    cases e
    rfl
  | .tup [k', d'] :: r, kvs, ns, h, e => by
    simp only [RowsK] at h
    obtain ⟨y, u, s, rfl, h1, h2, h3⟩ := h
    cases k' with
    | int i =>
      have e' : (intsD (keysR r)).map (i :: ·) = some ns := e
      cases e2 : intsD (keysR r) with
      | none => rw [e2] at e'; cases e'
      | some ms =>
        rw [e2] at e'
        cases e'
        cases h1
        rw [List.map_cons, List.map_cons, rowsK_keys h3 e2]
    | _ => cases e
  | .tup [] :: _, _, _, h, _ => by simp only [RowsK] at h
  | .tup [_] :: _, _, _, h, _ => by simp only [RowsK] at h
  | .tup (_ :: _ :: _ :: _) :: _, _, _, h, _ => by simp only [RowsK] at h
  | .non :: _, _, _, h, _ => by simp only [RowsK] at h
  | .bl _ :: _, _, _, h, _ => by simp only [RowsK] at h
  | .int _ :: _, _, _, h, _ => by simp only [RowsK] at h
  | .str _ :: _, _, _, h, _ => by simp only [RowsK] at h
  | .lst _ :: _, _, _, h, _ => by simp only [RowsK] at h
  | .klst _ :: _, _, _, h, _ => by simp only [RowsK] at h
  | .obj _ :: _, _, _, h, _ => by simp only [RowsK] at h
  | .dic _ _ :: _, _, _, h, _ => by simp only [RowsK] at h
  | .fdic _ _ :: _, _, _, h, _ => by simp only [RowsK] at h
  | .gtup _ :: _, _, _, h, _ => by simp only [RowsK] at h
theorem cb_sortedD (hc : X.calm = true) : CallR X (.builtin "sorted") (rDB X.K bSortedD) := by
  refine CallR.by_ fun vs H Q w st ds kk W R q fo => ?_
  unfold bSortedD at q
  split at q
  · obtain ⟨v, rfl, R1⟩ := one_rep R
    split at q
    · rename_i rows hd
      split at q
      · rename_i ns hn
        obtain ⟨a, o, rfl, h, r⟩ := dic_obj W R1 hd
        obtain ⟨kvs, rfl, _, r⟩ := r
        refine ⟨_, call_sortedDI hc, a, kvs, ns, rfl, .inl h, rowsK_keys r hn, q.1, fun ys p h1 h2 hp => ?_⟩
        rw [sortZ_of h1 h2]
        refine fol_lst W (Reps.of_ints _) ?_ q.2 fo p hp
        rw [List.length_map, sortZ_length, sizeLine_eq]
        have := q.1
        omega
      · exact q.elim
    · exact q.elim
  · exact q.elim
/-! ### evaluation -/
variable {kk : DK} {i : Nat} {rows : List D} {y x d : D} {t : Bool}
theorem e_dnew : dNewD t env st kk = kk (.dic t st.length) (st ++ [[]]) := rfl
theorem e_dget (h : st[i]? = some rows) : getD (.dic t i) y st kk = ((ky t y).isSome = true ∧ ∃ x, valR t rows y = some x ∧ kk x st) := by simp [getD, dicOf, h]
theorem e_dgetF : getD (.fdic t rows) y st kk = ((ky t y).isSome = true ∧ ∃ x, valR t rows y = some x ∧ kk x st) := rfl
theorem e_dgetOr (h : st[i]? = some rows) : getOrD x (.dic t i) y st kk = ((ky t y).isSome = true ∧ kk ((valR t rows y).getD x) st) := by simp [getOrD, dicOf, h]
theorem e_din {neg : Bool} (h : st[i]? = some rows) : inDic neg y (.dic t i) st kk = ((ky t y).isSome = true ∧ kk (.bl (if neg then !(valR t rows y).isSome else (valR t rows y).isSome)) st) := by simp [inDic, dicOf, h]
theorem e_dput {ks : Sto → Prop} (h : st[i]? = some rows) : putD (.dic t i) y x st ks = ((ky t y).isSome = true ∧ rows.length < 16777216 ∧ ks (st.set i (putR t rows y x))) := by simp [putD, h]
theorem e_dsome (h : st[i]? = some rows) : (dicOf st (.dic t i)).isSome = true := by simp [dicOf, h]
theorem e_dsetd (h : st[i]? = some rows) : setdD (.dic false i) y x st kk = ((ky false y).isSome = true ∧ rows.length < 16777216 ∧ match valR false rows y with
      | some v => kk v st
      | none => kk x (st.set i (putR false rows y x))) := by
  unfold setdD
  simp only [h]
  all_goals rfl
theorem e_dget1 {td ty : DE} {env : Env} : dGet1 td ty env st kk = td env st fun d s1 => (dicOf s1 d).isSome = true ∧ ty env s1 fun y s2 => getOrD .non d y s2 kk := rfl
theorem e_dget2 {td ty tx : DE} {env : Env} : dGet2 td ty tx env st kk = td env st fun d s1 => (dicOf s1 d).isSome = true ∧ ty env s1 fun y s2 => tx env s2 fun x s3 => getOrD x d y s3 kk := rfl
theorem e_dsetdS {td ty tx : DE} {env : Env} : dSetd td ty tx env st kk = td env st fun d s1 => (dicOf s1 d).isSome = true ∧ ty env s1 fun y s2 => tx env s2 fun x s3 => setdD d y x s3 kk := rfl
theorem e_dgPut {to ti : DE} {env : Env} {v : D} {ke : Env → Sto → Prop} : dgPut to ti v env st ke = to env st fun o s1 => ti env s1 fun i s2 => putD o i v s2 fun s3 => ke env s3 := rfl
theorem e_drG {ds : List D} : deref st (.gtup ds) = .tup ds := rfl
theorem e_kyI {n : Int} : (ky false (.int n)).isSome = true := rfl
theorem e_kyS {n : Str} : (ky false (.str n)).isSome = true := rfl
end
/-! ### tables -/
section
variable {κ α : Type} [DecidableEq κ]
def look : List (κ × α) → κ → Option α
  | [], _ => none
  | p :: r, k => if p.1 = k then some p.2 else look r k
/-- in its place, or at the end -/
def putL (ks : List (κ × α)) (k : κ) (a : α) : List (κ × α) := if (look ks k).isSome = true then ks.map (fun p => if p.1 = k then (p.1, a) else p) else ks ++ [(k, a)]
/-- keys as data -/
structure KeyE (t : Bool) (e : κ → D) : Prop where
  some : ∀ a, (ky t (e a)).isSome = true
  inj : ∀ a b, ky t (e a) = ky t (e b) → a = b
def tabR (e : κ → D) (f : α → D) (ks : List (κ × α)) : List D := ks.map fun p => .tup [e p.1, f p.2]
variable {t : Bool} {e : κ → D} {f : α → D}
theorem valR_tab (h : KeyE t e) (k : κ) : ∀ ks : List (κ × α), valR t (tabR e f ks) (e k) = (look ks k).map f
  | [] => rfl
  | p :: r => by
    show (if ky t (e p.1) = ky t (e k) then some (f p.2) else valR t (tabR e f r) (e k)) = _
    unfold look
    by_cases z : p.1 = k
    · rw [if_pos (by rw [z]), if_pos z]; rfl
    · rw [if_neg (fun q => z (h.inj _ _ q)), if_neg z]
      exact valR_tab h k r
theorem putR_tab (h : KeyE t e) (k : κ) (a : α) (ks : List (κ × α)) : putR t (tabR e f ks) (e k) (f a) = tabR e f (putL ks k a) := by
  unfold putR putL
  rw [valR_tab h, Option.isSome_map]
  by_cases z : (look ks k).isSome = true
  · rw [if_pos z, if_pos z]
    unfold tabR
    rw [List.map_map, List.map_map]
    refine List.map_congr_left fun p _ => ?_
    show setR t (e k) (f a) (.tup [e p.1, f p.2]) = _
    rw [setR_row]
    by_cases y : p.1 = k
    · rw [if_pos (by rw [y])]
      simp [y]
    · rw [if_neg (fun q => y (h.inj _ _ q))]
      simp [y]
  · rw [if_neg z, if_neg z]
    unfold tabR
    rw [List.map_append]
    rfl
theorem tabR_length (ks : List (κ × α)) : (tabR e f ks).length = ks.length := List.length_map _
theorem keysR_tab : ∀ ks : List (κ × α), keysR (tabR e f ks) = ks.map fun p => e p.1
  | [] => rfl
  | p :: r => congrArg (e p.1 :: ·) (keysR_tab r)
theorem valsR_tab : ∀ ks : List (κ × α), valsR (tabR e f ks) = ks.map fun p => f p.2
  | [] => rfl
  | p :: r => congrArg (f p.2 :: ·) (valsR_tab r)
theorem look_app (ks ls : List (κ × α)) (k : κ) : look (ks ++ ls) k = match look ks k with
    | some a => some a
    | none => look ls k := by
  induction ks with
  | nil => rfl
  | cons p r ih =>
    show (if p.1 = k then some p.2 else look (r ++ ls) k) = match (if p.1 = k then some p.2 else look r k) with
      | some a => some a
      | none => look ls k
    by_cases z : p.1 = k
    · rw [if_pos z, if_pos z]
    · rw [if_neg z, if_neg z]
      exact ih
theorem look_map (k j : κ) (a : α) : ∀ ks : List (κ × α), look (ks.map (fun p => if p.1 = k then (p.1, a) else p)) j = if j = k then (look ks j).map (fun _ => a) else look ks j
  | [] => by simp [look]
  | p :: r => by
    have ih := look_map k j a r
    rw [List.map_cons]
    by_cases h : p.1 = k
    · rw [if_pos h]
      by_cases q : p.1 = j
      · have jk : j = k := q.symm.trans h
        simp [look, q, jk]
      · have : look ((p.1, a) :: r.map (fun p => if p.1 = k then (p.1, a) else p)) j = look (r.map (fun p => if p.1 = k then (p.1, a) else p)) j := if_neg q
        rw [this, ih]
        simp [look, q]
    · rw [if_neg h]
      by_cases q : p.1 = j
      · have : ¬ j = k := fun z => h (q.trans z)
        simp [look, q, this]
      · have : look (p :: r.map (fun p => if p.1 = k then (p.1, a) else p)) j = look (r.map (fun p => if p.1 = k then (p.1, a) else p)) j := if_neg q
        rw [this, ih]
        simp [look, q]
theorem look_put (ks : List (κ × α)) (k j : κ) (a : α) : look (putL ks k a) j = if j = k then some a else look ks j := by
  unfold putL
  by_cases z : (look ks k).isSome = true
  · rw [if_pos z, look_map]
    by_cases q : j = k
    · rw [if_pos q, if_pos q, q]
      cases h : look ks k with
      | none => rw [h] at z; cases z
      | some b => rfl
    · rw [if_neg q, if_neg q]
  · rw [if_neg z, look_app]
    have hn : look ks k = none := by
      cases h : look ks k with
      | none => rfl
      | some b => rw [h] at z; exact absurd rfl z
    by_cases q : j = k
    · rw [if_pos q, q, hn]
      simp [look]
    · rw [if_neg q]
      cases look ks j with
      | none => simp [look, Ne.symm q]
      | some b => rfl
theorem look_mem {ks : List (κ × α)} {k : κ} {a : α} (h : look ks k = some a) : (k, a) ∈ ks := by
  induction ks with
  | nil => cases h
  | cons p r ih =>
    unfold look at h
    by_cases z : p.1 = k
    · rw [if_pos z] at h
      cases h
      rw [← z]
      exact List.mem_cons_self
    · rw [if_neg z] at h
      exact List.mem_cons_of_mem _ (ih h)
theorem look_none {ks : List (κ × α)} {k : κ} : look ks k = none ↔ k ∉ ks.map (·.1) := by
  induction ks with
  | nil => exact ⟨fun _ => List.not_mem_nil, fun _ => rfl⟩
  | cons p r ih =>
    rw [List.map_cons, List.mem_cons, not_or, ← ih]
    show (if p.1 = k then some p.2 else look r k) = none ↔ _
    by_cases z : p.1 = k
    · rw [if_pos z]
      refine ⟨fun h => (by cases h), fun h => absurd z.symm h.1⟩
    · rw [if_neg z]
      refine ⟨fun h => ⟨fun q => z q.symm, h⟩, fun h => h.2⟩
theorem look_of_mem {ks : List (κ × α)} (nd : (ks.map (·.1)).Nodup) {p : κ × α} (h : p ∈ ks) : look ks p.1 = some p.2 := by
  induction ks with
  | nil => cases h
  | cons q r ih =>
    rw [List.map_cons, List.nodup_cons] at nd
    show (if q.1 = p.1 then some q.2 else look r p.1) = _
    rcases List.mem_cons.mp h with e | e
    · subst e
      rw [if_pos rfl]
    · have : ¬ q.1 = p.1 := fun z => nd.1 (by rw [z]; exact List.mem_map.mpr ⟨p, e, rfl⟩)
      rw [if_neg this]
      exact ih nd.2 e
theorem putL_new {ks : List (κ × α)} {k : κ} {a : α} (h : look ks k = none) : putL ks k a = ks ++ [(k, a)] := by
  unfold putL
  rw [h]
  exact if_neg (fun z => by cases z)
theorem putL_length (ks : List (κ × α)) (k : κ) (a : α) : (putL ks k a).length ≤ ks.length + 1 := by
  unfold putL
  split
  · rw [List.length_map]; omega
  · rw [List.length_append]; simp
theorem putL_keys (ks : List (κ × α)) (k : κ) (a : α) : (putL ks k a).map (·.1) = if (look ks k).isSome = true then ks.map (·.1) else ks.map (·.1) ++ [k] := by
  unfold putL
  by_cases z : (look ks k).isSome = true
  · rw [if_pos z, if_pos z, List.map_map]
    refine List.map_congr_left fun p _ => ?_
    show (if p.1 = k then (p.1, a) else p).1 = p.1
    split <;> rfl
  · rw [if_neg z, if_neg z, List.map_append]
    rfl
end
theorem keyI : KeyE false D.int := ⟨fun _ => rfl, fun a b h => by
  have h' : some [(Sum.inl a : Key)] = some [Sum.inl b] := h
  cases h'
  rfl⟩
theorem keyS : KeyE false D.str := ⟨fun _ => rfl, fun a b h => by
  have h' : some [(Sum.inr a : Key)] = some [Sum.inr b] := h
  cases h'
  rfl⟩
def panD (p : Int × Int) : D := .tup [.int p.1, .int p.2]
theorem keyP : KeyE true panD := ⟨fun _ => rfl, fun a b h => by
  have h' : some [(Sum.inl a.1 : Key), Sum.inl a.2] = some [Sum.inl b.1, Sum.inl b.2] := h
  simp only [Option.some.injEq, List.cons.injEq, Sum.inl.injEq, and_true] at h'
  exact Prod.ext h'.1 h'.2⟩
theorem intsD_tab {α : Type} {f : α → D} (ks : List (Int × α)) : intsD (keysR (tabR D.int f ks)) = some (ks.map (·.1)) := by
  rw [keysR_tab, show (ks.map fun p => D.int p.1) = (ks.map (·.1)).map D.int by rw [List.map_map]; rfl, intsD_map]
theorem keyTI (ns : List Int) : ky true (.tup (ns.map D.int)) = some (ns.map Sum.inl) := by
  show keysD (ns.map D.int) = _
  induction ns with
  | nil => rfl
  | cons n r ih =>
    simp only [List.map_cons, keysD, keyD, ih]
theorem keyT : KeyE true fun ns : List Int => .tup (ns.map D.int) := ⟨fun a => by rw [keyTI]; rfl, fun a b h => by
  rw [keyTI, keyTI] at h
  have h' := Option.some.inj h
  have : ∀ xs ys : List Int, xs.map (Sum.inl : Int → Key) = ys.map Sum.inl → xs = ys := by
    intro xs
    induction xs with
    | nil => intro ys e; cases ys with
      | nil => rfl
      | cons _ _ => cases e
    | cons x xs ih => intro ys e; cases ys with
      | nil => cases e
      | cons y ys =>
        simp only [List.map_cons, List.cons.injEq, Sum.inl.injEq] at e
        rw [e.1, ih ys e.2]
  exact this a b h'⟩
/-! ### a def's own objects -/
theorem belows_0 {n : Nat} {xs : List D} (h : belows 0 xs = true) : belows n xs = true := belows_mono (Nat.zero_le n) xs h
theorem frzs_tup : ∀ (loc : List (List D)) (n : Nat) (xs : List D), frzs n loc (.tup xs) = .tup (xs.map (frzs n loc))
  | [], n, xs => by
    show D.tup xs = .tup (xs.map fun d => d)
    rw [List.map_id']
  | a :: r, n, xs => by
    show sub n (a.map (frzs (n + 1) r)) (frzs (n + 1) r (.tup xs)) = _
    rw [frzs_tup r (n + 1) xs]
    simp only [sub, subs_map, List.map_map]
    rfl
theorem frzs_closed {n : Nat} {loc : List (List D)} {d : D} (h : below 0 d = true) : frzs n loc d = d := frzs_below loc n d (below_mono (Nat.zero_le n) d h)
theorem map_closed {n : Nat} {loc : List (List D)} {xs : List D} (h : belows 0 xs = true) : xs.map (frzs n loc) = xs := by
  have : ∀ d ∈ xs, frzs n loc d = id d := fun d m => frzs_closed (belows_mem h m)
  rw [List.map_congr_left this, List.map_id]
theorem frzs_obj : ∀ (loc : List (List D)) (n a : Nat) (xs : List D), (∀ c ∈ loc, belows 0 c = true) → n ≤ a → loc[a - n]? = some xs → frzs n loc (.obj a) = .lst xs
  | [], n, a, xs, _, _, e => by simp at e
  | b :: r, n, a, xs, hc, l, e => by
    have hb := hc b List.mem_cons_self
    show sub n (b.map (frzs (n + 1) r)) (frzs (n + 1) r (.obj a)) = _
    rw [map_closed hb]
    by_cases z : a = n
    · subst z
      rw [Nat.sub_self] at e
      cases e
      rw [frzs_below r (a + 1) (.obj a) (by simp only [below, decide_eq_true_eq]; omega)]
      simp only [sub, if_true]
    · rw [show a - n = (a - (n + 1)) + 1 by omega, List.getElem?_cons_succ] at e
      rw [frzs_obj r (n + 1) a xs (fun c m => hc c (List.mem_cons_of_mem _ m)) (by omega) e]
      refine sub_below _ ?_
      simp only [below]
      exact belows_0 (hc xs (List.mem_cons_of_mem _ (List.mem_of_getElem? e)))
theorem safe_closed : ∀ (loc : List (List D)) (n : Nat), (∀ c ∈ loc, belows 0 c = true) → SafeLoc n loc
  | [], _, _ => trivial
  | b :: r, n, hc => by
    refine ⟨?_, safe_closed r (n + 1) fun c m => hc c (List.mem_cons_of_mem _ m)⟩
    have hb := hc b List.mem_cons_self
    rw [map_closed hb]
    exact belows_0 hb
theorem frz_locs {st loc : Sto} {d : D} {kk : DK} (hs : SafeLoc st.length loc) (h : kk (frzs st.length loc d) st) : Frz st d (st ++ loc) kk := ⟨st, loc, rfl, rfl, fun i xs e => .inl e, hs, h⟩
end DL

/-! DLK: len(set(xs)) of a list of numbers. -/
namespace DL
open PySem PySem.Spec PyProof.Rows L2
section
variable {X : Cx} {e : Expr} {ta : DE} {p p2 pos2 pos : Pos}
def rLenSetO (w : World) : List V → Hp → VK → Prop := fun vs H Q => ∃ (a : Addr) (S : Int → Bool) (n : Nat), vs = [V.ref a] ∧ H a = some (SetO w a S n) ∧ n < 4000 ∧ Q (.int (n : Nat)) H
theorem cr_lenSetO : CallR X (.builtin "len") (rLenSetO X.w) := by
  intro pins s σ H vs us Q I r h
  obtain ⟨a, S, n, rfl, ha, hn4, q⟩ := h
  rw [Vals.ref1 r]
  obtain ⟨o, es, ep, t, ho, hex, hd, _, _, _, _, hf, hn, _⟩ := setO_get I ha
  refine call_len_set ho hex hd hf (by omega) ?_
  exact ⟨.int n, H, I.tok _, ⟨_, by rw [hn]⟩, q⟩
def lnSetZ (k : DK) : DK := fun d s1 => match deref s1 d with
  | .lst xs => match intsD xs with
    | some ns => ns.length < 4000 ∧ k (.int ((setZ ns).length : Nat)) s1
    | none => False
  | _ => False
def dLenSetZ (t : DE) : DE := fun env st k => t env st (lnSetZ k)
theorem pd_lenSetZ (hc : X.calm = true) (hm : X.mg "len" = none) (hm2 : X.mg "set" = none) (hv : bootBuiltins "len" = some (.builtin "len")) (hv2 : bootBuiltins "set" = some (.type "set")) (ha : PD X e ta) (hg : Gl X "len" := by rfl) (hg2 : Gl X "set" := by rfl)
    (na : starEach [e] X.env = (false, eval e X.env) :: starEach [] X.env := by rfl) (nb : starEach [.Call (.Name "set" p2) [e] [] pos2] X.env = (false, eval (.Call (.Name "set" p2) [e] [] pos2) X.env) :: starEach [] X.env := by rfl) :
    PD X (.Call (.Name "len" p) [.Call (.Name "set" p2) [e] [] pos2] [] pos) (dLenSetZ ta) := by
  have hs := pe_callTy (pos := pos2) (p := p2) (cr_setL hc) hg2 hm2 hv2 (pa_cons ha pa_nil na) (by decide) (by decide) na (by rfl)
  refine (pe_callB (pos := pos) (p := p) cr_lenSetO hg hm hv (pa_cons hs pa_nil nb) (by decide) (by decide) nb (by rfl)).wk fun σ H Q ⟨w, env, st, kk, W, E, h, fo⟩ => ?_
  refine ⟨w, env, st, _, W, E, h, fun d st1 v w1 H1 h1 l1 W1 R1 => ?_⟩
  unfold lnSetZ at h1
  split at h1
  · rename_i hd
    split at h1
    · rename_i ns hb
      obtain ⟨a, us, rfl, q1, r1, n⟩ := rep_lst W1 R1 hd
      rw [intsD_eq hb] at r1
      rw [r1.ints] at q1
      refine ⟨a, ns, rfl, q1, by unfold scanBound; omega, fun p hp => ⟨p, _, _, rfl, upd_same, ?_, ?_⟩⟩
      · have := setZ_length_le ns
        omega
      · exact fo _ _ _ _ _ h1.2 l1 (W1.other hp) rep_int
    · exact h1.elim
  · exact h1.elim
theorem e_lenSetZ {env : DL.Env} {st : Sto} {k : DK} : dLenSetZ ta env st k = ta env st (lnSetZ k) := rfl
theorem e_lenSetZL {ns : List Int} {st : Sto} {k : DK} : lnSetZ k (.lst (ns.map D.int)) st = (ns.length < 4000 ∧ k (.int ((setZ ns).length : Nat)) st) := by simp only [lnSetZ, deref, intsD_map]
end
end DL

namespace LW
open PySem PySem.Spec PyProof.Rows L2 DL
def top (i : Nat) : Stmt := PySem.Challenge.pw_panfalls_k38_whole_layers_by_runs.main.body.getD i (.Pass ⟨0, 0, 0, 0⟩)
abbrev s_lighter : Stmt := top 3
abbrev N_lighter : List Str := ["standing"]
theorem sc_lighter : FnScope N_lighter ["standing"] (defScope s_lighter) := ⟨rfl, rfl, rfl, by decide +kernel, rfl, by decide +kernel, by decide +kernel⟩
abbrev s_laid_on : Stmt := top 4
abbrev N_laid_on : List Str := ["standing", "side", "weight"]
theorem sc_laid_on : FnScope N_laid_on ["standing", "side", "weight"] (defScope s_laid_on) := ⟨rfl, rfl, rfl, by decide +kernel, rfl, by decide +kernel, by decide +kernel⟩
abbrev s_fall : Stmt := top 5
abbrev N_fall : List Str := ["standing", "weight", "side"]
theorem sc_fall : FnScope N_fall ["standing", "weight"] (defScope s_fall) := ⟨rfl, rfl, rfl, by decide +kernel, rfl, by decide +kernel, by decide +kernel⟩
abbrev s_falls : Stmt := top 6
abbrev N_falls : List Str := ["standing", "word", "sides", "weight", "side"]
theorem sc_falls : FnScope N_falls ["standing", "word"] (defScope s_falls) := ⟨rfl, rfl, rfl, by decide +kernel, rfl, by decide +kernel, by decide +kernel⟩
abbrev s_spot_of : Stmt := top 8
abbrev N_spot_of : List Str := ["word", "size", "last"]
theorem sc_spot_of : FnScope N_spot_of ["word", "size"] (defScope s_spot_of) := ⟨rfl, rfl, rfl, by decide +kernel, rfl, by decide +kernel, by decide +kernel⟩
abbrev s_strip : Stmt := top 9
abbrev N_strip : List Str := ["word", "most", "size"]
theorem sc_strip : FnScope N_strip ["word", "most"] (defScope s_strip) := ⟨rfl, rfl, rfl, by decide +kernel, rfl, by decide +kernel, by decide +kernel⟩
abbrev s_layers : Stmt := top 10
abbrev N_layers : List Str := ["word", "most", "found", "place", "size", "changed"]
theorem sc_layers : FnScope N_layers ["word", "most"] (defScope s_layers) := ⟨rfl, rfl, rfl, by decide +kernel, rfl, by decide +kernel, by decide +kernel⟩
abbrev s_spots : Stmt := top 12
abbrev N_spots : List Str := ["run"]
theorem sc_spots : FnScope N_spots ["run"] (defScope s_spots) := ⟨rfl, rfl, rfl, by decide +kernel, rfl, by decide +kernel, by decide +kernel⟩
abbrev s_parts : Stmt := top 13
abbrev N_parts : List Str := ["run", "weight"]
theorem sc_parts : FnScope N_parts ["run", "weight"] (defScope s_parts) := ⟨rfl, rfl, rfl, by decide +kernel, rfl, by decide +kernel, by decide +kernel⟩
abbrev s_folded : Stmt := top 14
abbrev N_folded : List Str := ["run", "weight", "least", "most"]
theorem sc_folded : FnScope N_folded ["run", "weight"] (defScope s_folded) := ⟨rfl, rfl, rfl, by decide +kernel, rfl, by decide +kernel, by decide +kernel⟩
abbrev s_behind : Stmt := top 15
abbrev N_behind : List Str := ["run", "word", "weight"]
theorem sc_behind : FnScope N_behind ["run", "word"] (defScope s_behind) := ⟨rfl, rfl, rfl, by decide +kernel, rfl, by decide +kernel, by decide +kernel⟩
abbrev s_is_whole : Stmt := top 16
abbrev N_is_whole : List Str := ["run", "word", "here", "weight"]
theorem sc_is_whole : FnScope N_is_whole ["run", "word"] (defScope s_is_whole) := ⟨rfl, rfl, rfl, by decide +kernel, rfl, by decide +kernel, by decide +kernel⟩
abbrev s__law_tape : Stmt := top 18
abbrev N__law_tape : List Str := ["_law_script", "_law_k", "_law_cell"]
theorem sc__law_tape : FnScope N__law_tape ["_law_script", "_law_k"] (defScope s__law_tape) := ⟨rfl, rfl, rfl, by decide +kernel, rfl, by decide +kernel, by decide +kernel⟩
abbrev s__law_draw : Stmt := top 19
abbrev N__law_draw : List Str := ["_law_tape_here", "_law_count", "_law_found", "_law_once", "_law_twice", "_law_wide"]
theorem sc__law_draw : FnScope N__law_draw ["_law_tape_here", "_law_count"] (defScope s__law_draw) := ⟨rfl, rfl, rfl, by decide +kernel, rfl, by decide +kernel, by decide +kernel⟩
abbrev s__law_folded : Stmt := top 20
abbrev N__law_folded : List Str := ["_law_script", "_law_count", "_law_cells", "_law_k", "_law_cell"]
theorem sc__law_folded : FnScope N__law_folded ["_law_script", "_law_count"] (defScope s__law_folded) := ⟨rfl, rfl, rfl, by decide +kernel, rfl, by decide +kernel, by decide +kernel⟩
abbrev s__law_weight : Stmt := top 21
abbrev N__law_weight : List Str := ["_law_tape_here", "_law_high"]
theorem sc__law_weight : FnScope N__law_weight ["_law_tape_here", "_law_high"] (defScope s__law_weight) := ⟨rfl, rfl, rfl, by decide +kernel, rfl, by decide +kernel, by decide +kernel⟩
abbrev s__law_word : Stmt := top 22
abbrev N__law_word : List Str := ["_law_tape_here", "_law_count", "_law_high", "_law_size", "_law_way", "_law_some", "_law_k"]
theorem sc__law_word : FnScope N__law_word ["_law_tape_here", "_law_count", "_law_high"] (defScope s__law_word) := ⟨rfl, rfl, rfl, by decide +kernel, rfl, by decide +kernel, by decide +kernel⟩
abbrev s__law_right : Stmt := top 23
abbrev N__law_right : List Str := ["_law_tape_here", "_law_high", "_law_row", "_law_more", "_law_run", "_law_sizes", "_law_found", "_law_rows", "_law_last", "_law_changed", "_law_some", "_law_every", "_law_one", "_law_other", "_law_later", "_law_size", "_law_unlike"]
theorem sc__law_right : FnScope N__law_right ["_law_tape_here", "_law_high"] (defScope s__law_right) := ⟨rfl, rfl, rfl, by decide +kernel, rfl, by decide +kernel, by decide +kernel⟩
abbrev s_law : Stmt := top 24
abbrev N_law : List Str := ["_law_script", "_law_cells", "_law_k", "_law_tape_here", "_law_turn"]
theorem sc_law : FnScope N_law ["_law_script"] (defScope s_law) := ⟨rfl, rfl, rfl, by decide +kernel, rfl, by decide +kernel, by decide +kernel⟩
/-! the steps of a reading -/
theorem mul2 (w : Int) : MulOk 2 w := .inl ⟨by decide, by decide⟩
theorem in4 {r : Int} (h0 : 0 ≤ r) (h1 : r < 4) : r = 0 ∨ r = 1 ∨ r = 2 ∨ r = 3 := by omega
theorem in3 {r : Int} (h0 : 0 ≤ r) (h1 : r < 3) : r = 0 ∨ r = 1 ∨ r = 2 := by omega
theorem in2 {r : Int} (h0 : 0 ≤ r) (h1 : r < 2) : r = 0 ∨ r = 1 := by omega
theorem app_get {st : Sto} {xs : List D} : (st ++ [xs])[st.length]? = some xs := List.getElem?_concat_length ..
theorem app_set {st : Sto} {xs ys : List D} : (st ++ [xs]).set st.length ys = st ++ [ys] := by simp
theorem belows_str (n : Nat) : ∀ xs : List Str, belows n (xs.map D.str) = true
  | [] => rfl
  | x :: r => by simp only [List.map_cons, belows, below, Bool.true_and]; exact belows_str n r
theorem belows_int (n : Nat) : ∀ xs : List Int, belows n (xs.map D.int) = true
  | [] => rfl
  | x :: r => by simp only [List.map_cons, belows, below, Bool.true_and]; exact belows_int n r
theorem atI_last {α : Type} (xs : List α) (x : α) : atI (xs ++ [x]) (-1) = some x := by
  unfold atI ixN
  rw [if_neg (by decide), if_pos (by rw [List.length_append, List.length_singleton]; omega)]
  show (xs ++ [x])[_]? = some x
  have : (-1 + ((xs ++ [x]).length : Int)).toNat = xs.length := by
    rw [List.length_append, List.length_singleton]
    omega
  rw [this]
  simp
theorem mulr (a b : Int) (h : -(2 ^ 64) < b) (h' : b < 2 ^ 64) : MulOk a b := .inr (.inl ⟨h, h'⟩)
theorem mulc (a b : Int) (h : -(2 ^ 64) < a) (h' : a < 2 ^ 64) : MulOk a b := .inl ⟨h, h'⟩
theorem mulb (a : Int) (b : Prop) [Decidable b] : MulOk a (if b then 1 else 0) := .inr (.inl (by split <;> exact ⟨by decide, by decide⟩))
theorem ixN_of {n : Nat} {i : Int} (h0 : 0 ≤ i) (h1 : i < n) : ixN n i = some i.toNat := by
  unfold ixN
  rw [if_pos h0, if_pos h1]
theorem atI_at {α : Type} {xs : List α} {i : Int} (h0 : 0 ≤ i) (h1 : i < xs.length) : atI xs i = some (xs[i.toNat]'(by omega)) := by
  unfold atI
  rw [ixN_of h0 h1]
  show xs[i.toNat]? = _
  rw [List.getElem?_eq_getElem]
theorem cutD_map {α β : Type} (f : α → β) (xs : List α) (lo hi : Option Int) : DL.cutD (xs.map f) lo hi = (DL.cutD xs lo hi).map f := by
  unfold DL.cutD
  rw [List.length_map, List.map_take, List.map_drop]
theorem cutD_to {α : Type} (xs : List α) (m : Nat) : DL.cutD xs none (some (m : Int)) = xs.take m := by
  unfold DL.cutD
  rw [HT.sIx_nat, HT.sIx_none, List.drop_zero, Nat.sub_zero]
  by_cases h : m ≤ xs.length
  · rw [Nat.min_eq_left h]
  · rw [Nat.min_eq_right (by omega), List.take_length, List.take_of_length_le (by omega)]
theorem cutD_from {α : Type} (xs : List α) (m k : Nat) : DL.cutD xs (some (m : Int)) (some (k : Int)) = (xs.drop m).take (k - m) := by
  unfold DL.cutD
  rw [HT.sIx_nat, HT.sIx_nat]
  by_cases h : m ≤ xs.length
  · rw [Nat.min_eq_left h]
    by_cases h2 : k ≤ xs.length
    · rw [Nat.min_eq_left h2]
    · rw [Nat.min_eq_right (by omega), List.take_of_length_le (by rw [List.length_drop]; omega), List.take_of_length_le (by rw [List.length_drop]; omega)]
  · rw [Nat.min_eq_right (show xs.length ≤ m by omega), List.drop_length, List.drop_eq_nil_of_le (show xs.length ≤ m by omega)]
    simp
theorem blsD_rep : ∀ n : Nat, blsD (List.replicate n (.bl true)) = some (List.replicate n true)
  | 0 => rfl
  | n + 1 => by
    show (blsD (List.replicate n (.bl true))).map (true :: ·) = _
    rw [blsD_rep n]
    rfl
theorem all_rep (n : Nat) : (List.replicate n true).all id = true := by simp
theorem set_last (st : Sto) (a b : List D) : (st ++ [a]).set st.length b = st ++ [b] := by simp
theorem map_set_int (cs : List Int) (j : Nat) (v : Int) : (cs.map D.int).set j (.int v) = (cs.set j v).map D.int := by
  rw [List.map_set]
theorem kp10 (a b : D) : kperm [1, 0] [] [a, b] = [b, a] := rfl
theorem kp0 (a : D) : kperm [0] [] [a] = [a] := rfl
theorem at0 (a b c : D) : atI [a, b, c] 0 = some a := rfl
theorem at1 (a b c : D) : atI [a, b, c] 1 = some b := rfl
theorem at2 (a b c : D) : atI [a, b, c] 2 = some c := rfl
theorem ix0 : ixN 3 0 = some 0 := rfl
theorem ix2 : ixN 3 2 = some 2 := rfl
theorem pow5 {x : Int} (h0 : 0 ≤ x) (h1 : x < 18446744073709551616) : PowOk x 5 := ⟨by decide, by decide, by omega⟩
theorem enumD_len (n : Nat) (xs : List D) : (enumD n xs).length = xs.length := enumD_length n xs
theorem ok_left : PyData.strOk ("left" : Str) = true := by decide +kernel
theorem ok_right : PyData.strOk ("right" : Str) = true := by decide +kernel
theorem ok_side {x : Str} (h : x = "left" ∨ x = "right") : PyData.strOk x = true := by
  rcases h with rfl | rfl
  · exact ok_left
  · exact ok_right
theorem okDs_strs (n : Nat) : ∀ xs : List Str, (∀ x ∈ xs, PyData.strOk x = true) → okDs n (xs.map D.str) = true
  | [], _ => q_oks0
  | x :: r, h => by
    simp only [List.map_cons, q_oks1, q_okS, Bool.and_eq_true]
    exact ⟨h x List.mem_cons_self, okDs_strs n r fun y hy => h y (List.mem_cons_of_mem _ hy)⟩
theorem okDs_sides (n : Nat) : ∀ (ws : List Int) (s : Int), okDs n ((fsides s ws).map D.str) = true
  | [], _ => q_oks0
  | w :: r, s => by
    simp only [fsides, List.map_cons, q_oks1, q_okS, Bool.and_eq_true]
    exact ⟨by unfold sd; split <;> decide +kernel, okDs_sides n r _⟩
theorem eq_sides : ∀ xs : List Str, eqDs (xs.map D.str) (xs.map D.str) = true
  | [] => q_eqs0
  | x :: r => by
    simp only [List.map_cons, q_eqs1, q_eqSS, BEq.rfl, Bool.true_and]
    exact eq_sides r
def Big (m : Int) : Prop := 1 ≤ m ∧ m < 1000000000000000000000000
theorem Big.div {m : Int} (h : Big m) : DivOk m := ⟨by have := h.1; omega, by
  have h2 : m.natAbs < 2 ^ 80 := by have := h.1; have := h.2; omega
  exact Nat.lt_of_lt_of_le (PySem.Flt.log2_lt_of (by decide) h2) (by decide)⟩
theorem div_small {m : Int} (h : 0 < m) (h' : m < 4611686018427387904) : DivOk m := ⟨h, by
  have h2 : m.natAbs < 2 ^ 62 := by omega
  exact Nat.lt_of_lt_of_le (PySem.Flt.log2_lt_of (by decide) h2) (by decide)⟩
theorem dv2 : DivOk 2 := ⟨by decide, by decide⟩
theorem dv4 : DivOk 4 := ⟨by decide, by decide⟩
theorem p0 (a b : D) : atI [a, b] 0 = some a := rfl
theorem p1 (a b : D) : atI [a, b] 1 = some b := rfl
theorem atI_hd {α : Type} (x : α) (xs : List α) : atI (x :: xs) 0 = some x := by
  unfold atI ixN
  simp
theorem subs_int (n : Nat) (xs : List D) : ∀ ys : List Int, subs n xs (ys.map D.int) = ys.map D.int
  | [] => by simp only [List.map_nil, subs]
  | y :: r => by simp only [List.map_cons, subs, sub, subs_int n xs r]
theorem cutD_drop {α : Type} (xs : List α) (m : Nat) : DL.cutD xs (some (m : Int)) none = xs.drop m := by
  unfold DL.cutD
  rw [HT.sIx_nat, HT.sIx_none]
  by_cases h : m ≤ xs.length
  · rw [Nat.min_eq_left h, List.take_of_length_le (by rw [List.length_drop]; omega)]
  · rw [Nat.min_eq_right (show xs.length ≤ m by omega), List.drop_length, List.drop_eq_nil_of_le (show xs.length ≤ m by omega)]
    simp
def tupR (r : Int × Int) : D := .tup [.int r.1, .int r.2]
/-- a word that isn't bare, its greatest weight, its runs -/
structure WT (ws : List Int) (m : Int) (rest : List (Int × Int)) : Prop where
  ok : WOk m ws
  runs : RunsTo ws m rest
  small : ws.sum < 1000000000000
  len : ws.length ≤ 1000
def stR (m : Int) (rest : List (Int × Int)) : Int × Int := lastR (1, 2 * m - 1) rest
theorem WT.stays {ws : List Int} {m : Int} {rest : List (Int × Int)} (h : WT ws m rest) : Stays ws (stR m rest) := (stays_of h.ok h.runs).1
theorem WT.pos {ws : List Int} {m : Int} {rest : List (Int × Int)} (h : WT ws m rest) : 0 < ws.sum := by
  have := sum_pos h.ok
  have := h.ok.one
  omega
theorem WT.ne {ws : List Int} {m : Int} {rest : List (Int × Int)} (h : WT ws m rest) : 0 < ws.length := h.ok.1.pos
theorem sum_le (b : Int) : ∀ (ws : List Int), (∀ w ∈ ws, w ≤ b) → ws.sum ≤ b * ws.length
  | [], _ => by simp
  | w :: r, h => by
    have a := sum_le b r fun x hx => h x (List.mem_cons_of_mem _ hx)
    have c := h w List.mem_cons_self
    rw [List.sum_cons, List.length_cons, Int.natCast_succ, Int.mul_add, Int.mul_one]
    omega
theorem wt_ex {ws : List Int} (hne : ws ≠ []) (h : ∀ w ∈ ws, 1 ≤ w ∧ w ≤ 1000) (hl : ws.length ≤ 1000) : ∃ m rest, WT ws m rest ∧ m ≤ 1000 ∧ (rest.length : Int) ≤ m - 1 := by
  obtain ⟨m, hm⟩ := max_ex ws hne
  have ok : WOk m ws := ⟨hm, fun w hw => (h w hw).1⟩
  have m1 : m ≤ 1000 := (h m hm.1).2
  obtain ⟨rest, h1, h2, _⟩ := runs_ex ok m1
  have s := sum_le 1000 ws fun w hw => (h w hw).2
  exact ⟨m, rest, ⟨ok, h1, by omega, hl⟩, m1, h2⟩
def farS (s k : Int) : Int := if s < 0 then s - k else s + k
theorem farS_odd {s k : Int} (h : s % 2 = 1) (hk : k % 2 = 0) : farS s k % 2 = 1 := by unfold farS; split <;> omega
theorem far_sz {s k : Int} (hk : 0 ≤ k) : sz (farS s k) = sz s + k := by unfold farS sz; split <;> split <;> omega
theorem far_back {s k : Int} (h : s % 2 = 1) (hk : 0 ≤ k) : nearR (farS s k) k = s := by unfold nearR farS; split <;> split <;> omega
theorem flastN_farS {ws : List Int} {m : Int} {rest : List (Int × Int)} (W : WT ws m rest) {s : Int} (hs : s % 2 = 1) (n j : Nat) (hj : j ≤ n) :
    sz (flastN ws j (farS s (2 * ws.sum * n))) = sz s + 2 * ws.sum * n - 2 * ws.sum * j ∧ flastN ws n (farS s (2 * ws.sum * n)) = s := by
  have hp := W.pos
  have nn : ∀ a : Nat, 0 ≤ 2 * ws.sum * (a : Int) := fun a => Int.mul_nonneg (by omega) (by omega)
  have ev : (2 * ws.sum * (n : Int)) % 2 = 0 := by rw [Int.mul_assoc]; omega
  have od := farS_odd hs ev
  have ez := far_sz (s := s) (nn n)
  have p := sz_pos hs
  have le : 2 * ws.sum * (j : Int) ≤ 2 * ws.sum * (n : Int) := Int.mul_le_mul_of_nonneg_left (by omega) (by omega)
  have a := near_far ws W.ok.2 hp j _ od (by omega)
  have b := near_far ws W.ok.2 hp n _ od (by omega)
  refine ⟨by rw [a.2, ez], ?_⟩
  rw [b.1]
  exact far_back hs (nn n)
theorem settles_far {ws : List Int} {m : Int} {rest : List (Int × Int)} (W : WT ws m rest) {s : Int} (hs : s % 2 = 1) {k : Nat} (h : SettlesAt ws (stR m rest) s k) (n : Nat) : SettlesAt ws (stR m rest) (farS s (2 * ws.sum * n)) (k + n) := by
  have hp := W.pos
  have sp := sum_pos W.ok
  have sub := (stays_of W.ok W.runs).2
  have u := sub.2
  dsimp only at u
  have e := (flastN_farS W hs n n (Nat.le_refl _)).2
  refine ⟨?_, fun j hj => ?_⟩
  · rw [Nat.add_comm, flastN_add, e]
    exact h.1
  · by_cases z : j < n
    · intro q
      have a := (flastN_farS W hs n j (by omega)).1
      have le : 2 * ws.sum * (j : Int) + 2 * ws.sum ≤ 2 * ws.sum * (n : Int) := by
        have := Int.mul_le_mul_of_nonneg_left (show ((j : Int) + 1) ≤ n by omega) (show 0 ≤ 2 * ws.sum by omega)
        rw [Int.mul_add, Int.mul_one] at this
        exact this
      have b := q.2.1
      have c := sz_pos hs
      unfold stR at b
      omega
    · rw [show j = n + (j - n) by omega, flastN_add, e]
      exact h.2 (j - n) (by omega)
theorem settles_W {ws : List Int} {m : Int} {rest : List (Int × Int)} (W : WT ws m rest) {s : Int} (hs : s % 2 = 1) : ∃ k, SettlesAt ws (stR m rest) s k ∧ (farR s ws).toNat ≤ k ∧ (sz s ≤ 2 * m - 1 → k ≤ rest.length) := by
  obtain ⟨k, h1, h2, _, h4⟩ := settles_ex W.ok W.runs hs
  exact ⟨k, h1, h2, h4⟩
theorem settles_far_le {ws : List Int} {m : Int} {rest : List (Int × Int)} (W : WT ws m rest) {s : Int} (hs : s % 2 = 1) {k : Nat} (h : SettlesAt ws (stR m rest) s k) : (farR s ws).toNat ≤ k := by
  obtain ⟨j, h1, h2, _⟩ := settles_W W hs
  rw [settles_unique h h1]
  exact h2
/-- behind so many grains of a word that comes again and again -/
def atN (ws : List Int) (s : Int) (n : Nat) : Int := if ws.length = 0 then s else flast (flastN ws (n / ws.length) s) (ws.take (n % ws.length))
def cameN (ws : List Int) (n : Nat) : Int := ((n / ws.length : Nat) : Int) * ws.sum + (ws.take (n % ws.length)).sum
def leftN (ws : List Int) (s : Int) (n : Nat) : Int := (cameN ws n + (atN ws s n - s) / 2) / 2
/-- so many grains of a word that comes again and again, in a row -/
def cycN (ws : List Int) (n : Nat) : List Int := (List.range n).map fun i => ws.getD (i % ws.length) 0
theorem cycN_one {ws : List Int} (r : Nat) (h : r ≤ ws.length) : cycN ws r = ws.take r := by
  refine List.ext_getElem? fun i => ?_
  unfold cycN
  rw [List.getElem?_map]
  by_cases z : i < r
  · rw [List.getElem?_range z, List.getElem?_take_of_lt z, List.getElem?_eq_getElem (by omega)]
    show some (ws.getD (i % ws.length) 0) = _
    rw [Nat.mod_eq_of_lt (by omega), List.getD_eq_getElem?_getD, List.getElem?_eq_getElem (by omega)]
    rfl
  · rw [List.getElem?_eq_none (by rw [List.length_range]; omega), List.getElem?_eq_none (by rw [List.length_take]; omega)]
    rfl
theorem cycN_more (ws : List Int) (n : Nat) : cycN ws (ws.length + n) = ws ++ cycN ws n := by
  unfold cycN
  rw [List.range_add, List.map_append, List.map_map]
  have e1 := cycN_one (ws := ws) ws.length (Nat.le_refl _)
  unfold cycN at e1
  rw [e1, List.take_length]
  congr 1
  refine List.map_congr_left fun i _ => ?_
  show ws.getD ((ws.length + i) % ws.length) 0 = _
  rw [Nat.add_mod_left]
theorem cycN_facts (ws : List Int) : ∀ (q r : Nat), r ≤ ws.length → ∀ s, flast s (cycN ws (ws.length * q + r)) = flast (flastN ws q s) (ws.take r) ∧ (cycN ws (ws.length * q + r)).sum = (q : Int) * ws.sum + (ws.take r).sum
  | 0, r, h, s => by
    rw [Nat.mul_zero, Nat.zero_add, cycN_one r h]
    simp [flastN]
  | q + 1, r, h, s => by
    obtain ⟨a, b⟩ := cycN_facts ws q r h (flast s ws)
    rw [show ws.length * (q + 1) + r = ws.length + (ws.length * q + r) by rw [Nat.mul_add]; omega, cycN_more, (fsides_app ws _ s).2, a, List.sum_append, b]
    refine ⟨rfl, ?_⟩
    rw [Int.natCast_succ, Int.add_mul]
    omega
theorem cycN_at {ws : List Int} (h : 0 < ws.length) (n : Nat) (s : Int) : flast s (cycN ws n) = atN ws s n ∧ (cycN ws n).sum = cameN ws n ∧ leftOf s (cycN ws n) = leftN ws s n := by
  have e := cycN_facts ws (n / ws.length) (n % ws.length) (Nat.le_of_lt (Nat.mod_lt _ h)) s
  rw [Nat.div_add_mod] at e
  have e1 : flast s (cycN ws n) = atN ws s n := by
    unfold atN
    rw [if_neg (by omega)]
    exact e.1
  refine ⟨e1, e.2, ?_⟩
  have fl := flast_left (cycN ws n) s
  unfold leftN
  rw [← e1, fl]
  unfold cameN
  rw [e.2]
  omega
theorem cycN_len (ws : List Int) (n : Nat) : (cycN ws n).length = n := by unfold cycN; rw [List.length_map, List.length_range]
theorem atN_eq {ws : List Int} (h : 0 < ws.length) (q r : Nat) (hr : r ≤ ws.length) (s : Int) : atN ws s (ws.length * q + r) = flast (flastN ws q s) (ws.take r) := by
  rw [← (cycN_at h _ s).1]
  exact (cycN_facts ws q r hr s).1
theorem atN_rounds {ws : List Int} (h : 0 < ws.length) (q : Nat) (s : Int) : atN ws s (ws.length * q) = flastN ws q s := by
  have := atN_eq h q 0 (Nat.zero_le _) s
  rw [Nat.add_zero] at this
  rw [this]
  rfl
theorem atN_add {ws : List Int} (h : 0 < ws.length) (q n : Nat) (s : Int) : atN ws (flastN ws q s) n = atN ws s (ws.length * q + n) := by
  have l := Nat.le_of_lt (Nat.mod_lt n h)
  have e := Nat.div_add_mod n ws.length
  rw [show ws.length * q + n = ws.length * (q + n / ws.length) + n % ws.length by rw [Nat.mul_add]; omega, atN_eq h _ _ l, flastN_add, ← atN_eq h _ _ l, e]
theorem cameN_add {ws : List Int} (h : 0 < ws.length) (q n : Nat) : cameN ws (ws.length * q + n) = (q : Int) * ws.sum + cameN ws n := by
  unfold cameN
  rw [Nat.mul_add_div h, Nat.mul_add_mod, Int.natCast_add, Int.add_mul, Int.add_assoc]
theorem four_left {ws : List Int} (h : 0 < ws.length) (s : Int) (n : Nat) : 4 * leftN ws s n = atN ws s n - s + 2 * cameN ws n := by
  obtain ⟨e1, e2, e3⟩ := cycN_at h n s
  have fl := flast_left (cycN ws n) s
  rw [e1, e2, e3] at fl
  omega
theorem left_within : ∀ (ws : List Int) (s : Int), (∀ w ∈ ws, 1 ≤ w) → 0 ≤ leftOf s ws ∧ leftOf s ws ≤ ws.sum
  | [], s, _ => by simp [leftOf, leftsL]
  | w :: r, s, h => by
    have ih := left_within r (fallI s w) fun x hx => h x (List.mem_cons_of_mem _ hx)
    have h1 := h w List.mem_cons_self
    unfold leftOf at ih ⊢
    simp only [leftsL, List.sum_cons]
    by_cases z : s < 0
    · rw [if_pos z, List.sum_cons]
      omega
    · rw [if_neg z]
      omega
theorem leftN_within {ws : List Int} (h : 0 < ws.length) (hw : ∀ w ∈ ws, 1 ≤ w) (s : Int) (n : Nat) : 0 ≤ leftN ws s n ∧ leftN ws s n ≤ cameN ws n := by
  obtain ⟨e1, e2, e3⟩ := cycN_at h n s
  rw [← e2, ← e3]
  refine left_within _ _ fun w hm => ?_
  unfold cycN at hm
  obtain ⟨i, _, rfl⟩ := List.mem_map.mp hm
  have lt := Nat.mod_lt i h
  rw [List.getD_eq_getElem?_getD, List.getElem?_eq_getElem lt]
  exact hw _ (List.getElem_mem _)
theorem settled_in {ws : List Int} {T : Int × Int} (S : Stays ws T) {s : Int} (hs : s % 2 = 1) {k : Nat} (h : SettlesAt ws T s k) {q : Nat} (hq : k ≤ q) : InR (sz (flastN ws q s)) T := by
  rw [show q = k + (q - k) by omega, flastN_add]
  exact (stay_N S _ (flastN_odd ws k hs) h.1).2
theorem flastN_stay {ws : List Int} {T : Int × Int} (S : Stays ws T) {s : Int} (hs : s % 2 = 1) {k : Nat} (h : SettlesAt ws T s k) {q : Nat} (hq : k ≤ q) (j : Nat) : flastN ws (q + lenOf T ws * j) s = flastN ws q s := by
  rw [flastN_add, (stay_N S _ (flastN_odd ws q hs) (settled_in S hs h hq)).1, Nat.mul_mod_right, if_pos rfl]
theorem atN_stay {ws : List Int} {T : Int × Int} (S : Stays ws T) (hl : 0 < ws.length) {s : Int} (hs : s % 2 = 1) {k : Nat} (h : SettlesAt ws T s k) (q r : Nat) (hr : r ≤ ws.length) (hq : k ≤ q) (j : Nat) :
    atN ws s (ws.length * (q + lenOf T ws * j) + r) = atN ws s (ws.length * q + r) := by
  rw [atN_eq hl _ r hr, atN_eq hl _ r hr, flastN_stay S hs h hq]
theorem atN_odd (ws : List Int) {s : Int} (hs : s % 2 = 1) (n : Nat) : atN ws s n % 2 = 1 := by
  unfold atN
  split
  · exact hs
  · exact flast_odd' _ _ (flastN_odd ws _ hs)
theorem atN_neg (ws : List Int) {s : Int} (hs : s % 2 = 1) (n : Nat) : atN ws (0 - s) n = 0 - atN ws s n := by
  unfold atN
  split
  · rfl
  · rw [flastN_neg ws _ hs, flast_neg _ (flastN_odd ws _ hs)]
theorem leftN_neg {ws : List Int} (h : 0 < ws.length) {s : Int} (hs : s % 2 = 1) (n : Nat) : leftN ws (0 - s) n = cameN ws n - leftN ws s n := by
  have a := four_left h s n
  have b := four_left h (0 - s) n
  rw [atN_neg ws hs] at b
  omega
theorem settles_neg {ws : List Int} {T : Int × Int} {s : Int} (hs : s % 2 = 1) {k : Nat} (h : SettlesAt ws T s k) : SettlesAt ws T (0 - s) k := by
  refine ⟨?_, fun j hj => ?_⟩
  · rw [flastN_neg ws k hs, sz_neg]
    exact h.1
  · rw [flastN_neg ws j hs, sz_neg]
    exact h.2 j hj
theorem neg_ne {s : Int} (hs : s % 2 = 1) : (0 - s == s) = false := by
  rw [Bool.eq_false_iff]
  intro z
  rw [beq_iff_eq] at z
  omega
theorem Big.s {m : Int} (h : 1 ≤ m) (h' : m < 1000000000000) : Big m := ⟨h, by omega⟩
/-- a row of grains -/
structure Row (ws : List Int) (c h : Int) : Prop where
  ne : ws ≠ []
  len : (ws.length : Int) ≤ c
  all : ∀ w ∈ ws, 1 ≤ w ∧ w ≤ h
theorem Row.wt {ws : List Int} {c h : Int} (r : Row ws c h) (hc : c ≤ 1000) (hh : h ≤ 1000) : ∃ m rest, WT ws m rest ∧ m ≤ h ∧ (rest.length : Int) ≤ m - 1 := by
  obtain ⟨m, rest, W, _, h2⟩ := wt_ex r.ne (fun w hw => ⟨(r.all w hw).1, by have := (r.all w hw).2; omega⟩) (by have := r.len; omega)
  exact ⟨m, rest, W, (r.all m W.ok.1.1).2, h2⟩
theorem last_odds (rest : List (Int × Int)) (r : Int × Int) (f : Int × Int → D) : atI ((r :: rest).map f) (-1) = some (f (lastR r rest)) := by
  have : ∀ (rest : List (Int × Int)) (r : Int × Int), ∃ pre, r :: rest = pre ++ [lastR r rest] := by
    intro rest
    induction rest with
    | nil => intro r; exact ⟨[], rfl⟩
    | cons q rest ih =>
      intro r
      obtain ⟨pre, h⟩ := ih q
      exact ⟨r :: pre, congrArg (r :: ·) h⟩
  obtain ⟨pre, h⟩ := this rest r
  rw [h, List.map_append]
  exact atI_last _ _
theorem natOf_range (n : Nat) : rangeD 0 n = (List.range n).map fun i => D.int (i : Nat) := by
  unfold rangeD
  refine List.map_congr_left fun x _ => ?_
  rw [Int.zero_add]
theorem eqDs_nil (xs : List Int) : eqDs (xs.map D.int) [] = decide (xs = []) := by
  cases xs <;> simp [eqDs]
def oddsD (r : Int × Int) : D := .lst ((oddsR r).map D.int)
theorem cutD_end {α : Type} (xs : List α) (x : α) : DL.cutD (xs ++ [x]) (some (-1)) none = [x] := by
  unfold DL.cutD
  rw [HT.sIx_none]
  have e : HT.sIx (xs ++ [x]).length 0 (some (-1)) = xs.length := by
    unfold HT.sIx
    rw [List.length_append, List.length_singleton]
    simp
    omega
  rw [e, List.drop_left' rfl, List.take_of_length_le (by simp)]
theorem cutD_endR (rest : List (Int × Int)) (r : Int × Int) (f : Int × Int → D) : DL.cutD ((r :: rest).map f) (some (-1)) none = [f (lastR r rest)] := by
  have : ∀ (rest : List (Int × Int)) (r : Int × Int), ∃ pre, r :: rest = pre ++ [lastR r rest] := by
    intro rest
    induction rest with
    | nil => intro r; exact ⟨[], rfl⟩
    | cons q rest ih =>
      intro r
      obtain ⟨pre, h⟩ := ih q
      exact ⟨r :: pre, congrArg (r :: ·) h⟩
  obtain ⟨pre, h⟩ := this rest r
  rw [h, List.map_append]
  exact cutD_end _ _
theorem rng_odd {m : Int} (h : 1 ≤ m) (h' : m < 1000000) : RgC 1 (2 * m) 2 m.toNat := by
  have hs : Builtin.Range.rangeSize 1 (2 * m) 2 = (m.toNat : Int) := by
    unfold Builtin.Range.rangeSize
    rw [if_pos (by decide), if_pos (by omega)]
    omega
  refine ⟨by decide, by decide, ?_, hs⟩
  unfold Builtin.Range.small Builtin.Range.rangeFitsLong
  rw [hs]
  simp only [Bool.and_eq_true, decide_eq_true_eq]
  refine ⟨by omega, ?_⟩
  rw [if_pos (by decide)]
  simp only [Bool.or_eq_true, Bool.and_eq_true, decide_eq_true_eq]
  right
  omega
theorem rng_odds {r : Int × Int} (h : OkRun r) (h' : r.2 < 4000000000) : RgC r.1 (r.2 + 1) 2 (spotR r).toNat := by
  obtain ⟨h1, h2, h3, h4⟩ := h
  have hs : Builtin.Range.rangeSize r.1 (r.2 + 1) 2 = ((spotR r).toNat : Int) := by
    unfold Builtin.Range.rangeSize spotR
    rw [if_pos (by decide), if_pos (by omega)]
    omega
  refine ⟨by decide, by decide, ?_, hs⟩
  unfold Builtin.Range.small Builtin.Range.rangeFitsLong
  rw [hs]
  simp only [Bool.and_eq_true, decide_eq_true_eq]
  unfold spotR
  refine ⟨by omega, ?_⟩
  rw [if_pos (by decide)]
  simp only [Bool.or_eq_true, Bool.and_eq_true, decide_eq_true_eq]
  right
  omega
theorem odds_first {r : Int × Int} (h : OkRun r) : atI ((oddsR r).map D.int) 0 = some (.int r.1) := by
  have hp := spot_pos h
  show atI _ ((0 : Nat) : Int) = _
  refine atI_nat ?_
  unfold oddsR
  rw [List.getElem?_map, List.getElem?_map, List.getElem?_range (by omega)]
  simp
theorem odds_last {r : Int × Int} (h : OkRun r) : atI ((oddsR r).map D.int) (-1) = some (.int r.2) := by
  have hp := spot_pos h
  obtain ⟨h1, h2, h3, h4⟩ := h
  have e : oddsR r = ((List.range ((spotR r).toNat - 1)).map fun i => r.1 + ((i : Nat) : Int) * 2) ++ [r.2] := by
    unfold oddsR
    rw [show (spotR r).toNat = ((spotR r).toNat - 1) + 1 by omega, List.range_succ, List.map_append]
    congr 1
    simp only [List.map_cons, List.map_nil, Nat.add_sub_cancel]
    congr 1
    unfold spotR at *
    omega
  rw [e, List.map_append]
  exact atI_last _ _
theorem okDs_tupR (n : Nat) : ∀ xs : List (Int × Int), okDs (n + 1) (xs.map tupR) = true
  | [] => q_oks0
  | x :: r => by
    simp only [List.map_cons, q_oks1, tupR, q_okT, q_oks0, q_okI, Bool.and_true, Bool.true_and]
    exact okDs_tupR n r
mutual
theorem okD_mono : ∀ {n m : Nat} {d : D}, n ≤ m → okD n d = true → okD m d = true
  | n, m, .non, _, _ => by cases m <;> simp only [okD]
  | n, m, .bl _, _, _ => by cases m <;> simp only [okD]
  | n, m, .int _, _, _ => by cases m <;> simp only [okD]
  | n, m, .str x, _, h => by
    have h' : PyData.strOk x = true := by cases n <;> simpa only [okD] using h
    cases m <;> simpa only [okD] using h'
  | n, m, .klst _, _, h => by cases n <;> simp [okD] at h
  | n, m, .obj _, _, h => by cases n <;> simp [okD] at h
  | n, m, .dic _ _, _, h => by cases n <;> simp [okD] at h
  | n, m, .fdic _ _, _, h => by cases n <;> simp [okD] at h
  | n, m, .gtup _, _, h => by cases n <;> simp [okD] at h
  | 0, m, .lst _, _, h => by simp [okD] at h
  | n + 1, 0, .lst _, l, _ => by omega
  | n + 1, m + 1, .lst xs, l, h => by
    simp only [okD] at h ⊢
    exact okDs_mono (by omega) h
  | 0, m, .tup _, _, h => by simp [okD] at h
  | n + 1, 0, .tup _, l, _ => by omega
  | n + 1, m + 1, .tup xs, l, h => by
    simp only [okD] at h ⊢
    exact okDs_mono (by omega) h
theorem okDs_mono : ∀ {n m : Nat} {ds : List D}, n ≤ m → okDs n ds = true → okDs m ds = true
  | n, m, [], _, _ => by simp only [okDs]
  | n, m, x :: xs, l, h => by
    simp only [okDs, Bool.and_eq_true] at h ⊢
    exact ⟨okD_mono l h.1, okDs_mono l h.2⟩
end
theorem okDs_mem {n : Nat} : ∀ {ds : List D}, okDs n ds = true → ∀ d ∈ ds, okD n d = true
  | [], _, d, h => by cases h
  | x :: xs, h, d, m => by
    simp only [okDs, Bool.and_eq_true] at h
    rcases List.mem_cons.mp m with e | e
    · rw [e]; exact h.1
    · exact okDs_mem h.2 d e
theorem okDs_of {n : Nat} : ∀ {ds : List D}, (∀ d ∈ ds, okD n d = true) → okDs n ds = true
  | [], _ => by simp only [okDs]
  | x :: xs, h => by
    simp only [okDs, Bool.and_eq_true]
    exact ⟨h x List.mem_cons_self, okDs_of fun d hd => h d (List.mem_cons_of_mem _ hd)⟩
theorem blsD_bls : ∀ bs : List Bool, blsD (bs.map D.bl) = some bs
  | [] => rfl
  | b :: r => by
    show (blsD (r.map D.bl)).map (b :: ·) = _
    rw [blsD_bls r]
    rfl
theorem okD_deref {n : Nat} {d : D} (h : okD n d = true) (st : Sto) : deref st d = d := by
  cases d with
  | obj i => cases n <;> simp [okD] at h
  | klst xs => cases n <;> simp [okD] at h
  | gtup xs => cases n <;> simp [okD] at h
  | _ => rfl
def isNumB : D → Bool
  | .int _ => true
  | _ => false
def isStB : D → Bool
  | .int i => decide (i % 2 = 1)
  | _ => false
def posB : D → Bool
  | .int i => decide (0 < i)
  | _ => false
def isWordB : D → Bool
  | .tup xs => xs.all posB
  | _ => false
def isRunB : D → Bool
  | .tup [.int a, .int b] => decide (1 ≤ a) && decide (a ≤ b) && decide (a % 2 = 1) && decide (b % 2 = 1)
  | _ => false
/-- not too many items -/
def szOk : D → Prop
  | .tup xs => xs.length ≤ 16777216
  | _ => True
theorem all_num2 (xs : List D) (h : xs.length = 2) : (xs.map isNumB).all id = true → ∃ a b, xs = [.int a, .int b] := by
  intro q
  match xs, h, q with
  | [x, y], _, q =>
    simp only [List.map_cons, List.map_nil, List.all_cons, List.all_nil, Bool.and_true, Bool.and_eq_true, id] at q
    cases x <;> simp [isNumB] at q
    cases y <;> simp [isNumB] at q
    exact ⟨_, _, rfl⟩
theorem all_num2f (xs : List D) : (xs.map isNumB).all id = false → isRunB (.tup xs) = false := by
  intro q
  unfold isRunB
  split
  · rename_i h
    cases h
    simp [isNumB] at q
  · rfl
theorem len2f (xs : List D) (h : xs.length ≠ 2) : isRunB (.tup xs) = false := by
  unfold isRunB
  split
  · rename_i q
    cases q
    simp at h
  · rfl
def itR (ws : List Int) : Nat → Int × Int → Int × Int
  | 0, r => r
  | n + 1, r => itR ws n (foldsR r ws)
theorem itR_add (ws : List Int) : ∀ (a b : Nat) (r : Int × Int), itR ws (a + b) r = itR ws b (itR ws a r)
  | 0, b, r => by rw [Nat.zero_add]; rfl
  | a + 1, b, r => by
    rw [show a + 1 + b = (a + b) + 1 by omega]
    exact itR_add ws a b (foldsR r ws)
theorem itR_succ (ws : List Int) (n : Nat) (r : Int × Int) : itR ws (n + 1) r = foldsR (itR ws n r) ws := itR_add ws n 1 r
theorem itR_ok (ws : List Int) : ∀ (n : Nat) {r : Int × Int}, OkRun r → OkRun (itR ws n r)
  | 0, _, h => h
  | n + 1, _, h => itR_ok ws n (folds_ok ws h)
theorem itR_nest {ws : List Int} {r : Int × Int} (h : OkRun r) (hs : Sub (foldsR r ws) r) : ∀ (n : Nat), Sub (itR ws (n + 1) r) (itR ws n r)
  | 0 => hs
  | n + 1 => by
    have ih := itR_nest h hs n
    rw [itR_succ ws (n + 1) r, itR_succ ws n r]
    rw [itR_succ ws n r] at ih
    exact folds_sub ws (folds_ok ws (itR_ok ws n h)) (itR_ok ws n h) ih
theorem itR_nests {ws : List Int} {r : Int × Int} (h : OkRun r) (hs : Sub (foldsR r ws) r) (n : Nat) : ∀ (j : Nat), Sub (itR ws (n + j) r) (itR ws n r)
  | 0 => ⟨Int.le_refl _, Int.le_refl _⟩
  | j + 1 => by
    have a := itR_nests h hs n j
    have b := itR_nest h hs (n + j)
    exact ⟨Int.le_trans a.1 b.1, Int.le_trans b.2 a.2⟩
theorem itR_stop {ws : List Int} {r : Int × Int} (h : OkRun r) (hs : Sub (foldsR r ws) r) (n j : Nat) (e : itR ws (n + (j + 1)) r = itR ws n r) : itR ws (n + 1) r = itR ws n r := by
  have a := itR_nest h hs n
  have b := itR_nests h hs (n + 1) j
  rw [show n + 1 + j = n + (j + 1) by omega, e] at b
  exact Prod.ext (Int.le_antisymm b.1 a.1) (Int.le_antisymm a.2 b.2)
theorem chain_it {ws : List Int} : ∀ (rest : List (Int × Int)) (r : Int × Int), ChainR ws r rest → (∀ j, rest.length ≤ j → itR ws j r = lastR r rest) ∧ ∀ j, j < rest.length → itR ws (j + 1) r ≠ itR ws j r
  | [], r, h => by
    have fix : foldsR r ws = r := h
    have all : ∀ j, itR ws j r = r := by
      intro j
      induction j with
      | zero => rfl
      | succ j ih => rw [itR_succ, ih, fix]
    exact ⟨fun j _ => all j, fun j hj => by cases hj⟩
  | q :: rest, r, h => by
    obtain ⟨i1, i2⟩ := chain_it rest q h.2.2
    refine ⟨fun j hj => ?_, fun j hj => ?_⟩
    · cases j with
      | zero => cases hj
      | succ j =>
        show itR ws j (foldsR r ws) = _
        rw [h.1]
        exact i1 j (by simpa using hj)
    · cases j with
      | zero =>
        show foldsR r ws ≠ r
        rw [h.1]
        exact h.2.1
      | succ j =>
        show itR ws (j + 1) (foldsR r ws) ≠ itR ws j (foldsR r ws)
        rw [h.1]
        exact i2 j (by simpa using hj)
def repW (t : Nat) (ws : List Int) : List Int := (List.replicate t ws).flatten
theorem repW_succ (t : Nat) (ws : List Int) : repW (t + 1) ws = ws ++ repW t ws := by unfold repW; rw [List.replicate_succ, List.flatten_cons]
theorem repW_folds (ws : List Int) : ∀ (t : Nat) (r : Int × Int), foldsR r (repW t ws) = itR ws t r
  | 0, _ => rfl
  | t + 1, r => by rw [repW_succ, foldsR_app, repW_folds ws t]; rfl
theorem repW_it (ws : List Int) (t : Nat) : ∀ (n : Nat) (r : Int × Int), itR (repW t ws) n r = itR ws (t * n) r
  | 0, _ => by rw [Nat.mul_zero]; rfl
  | n + 1, r => by
    show itR (repW t ws) n (foldsR r (repW t ws)) = _
    rw [repW_it ws t n, repW_folds, Nat.mul_succ, Nat.add_comm, itR_add]
theorem repW_last (ws : List Int) : ∀ (t : Nat) (s : Int), flast s (repW t ws) = flastN ws t s
  | 0, _ => rfl
  | t + 1, s => by rw [repW_succ, (fsides_app ws _ s).2, repW_last ws t]; rfl
theorem repW_lastN (ws : List Int) (t : Nat) : ∀ (n : Nat) (s : Int), flastN (repW t ws) n s = flastN ws (t * n) s
  | 0, _ => by rw [Nat.mul_zero]; rfl
  | n + 1, s => by
    show flastN (repW t ws) n (flast s (repW t ws)) = _
    rw [repW_lastN ws t n, repW_last, Nat.mul_succ, Nat.add_comm, flastN_add]
theorem turns_app : ∀ (a b : List Int) (r : Int × Int), turnsR r (a ++ b) = turnsR r a + turnsR (foldsR r a) b
  | [], b, r => by simp [turnsR, foldsR]
  | w :: a, b, r => by
    simp only [List.cons_append, turnsR, foldsR]
    rw [turns_app a b]
    omega
theorem repW_turns {ws : List Int} {T : Int × Int} (h : foldsR T ws = T) : ∀ t : Nat, turnsR T (repW t ws) = (t : Int) * turnsR T ws
  | 0 => by simp [repW, turnsR]
  | t + 1 => by
    rw [repW_succ, turns_app, h, repW_turns h t, Int.natCast_succ, Int.add_mul]
    omega
theorem repW_mem {t : Nat} (ht : 1 ≤ t) (ws : List Int) (x : Int) : x ∈ repW t ws ↔ x ∈ ws := by
  unfold repW
  rw [List.mem_flatten]
  constructor
  · rintro ⟨l, hl, hx⟩
    rw [(List.mem_replicate.mp hl).2] at hx
    exact hx
  · intro hx
    exact ⟨ws, List.mem_replicate.mpr ⟨by omega, rfl⟩, hx⟩
theorem repW_len (t : Nat) (ws : List Int) : (repW t ws).length = t * ws.length := by
  induction t with
  | zero => simp [repW]
  | succ t ih => rw [repW_succ, List.length_append, ih, Nat.succ_mul, Nat.add_comm]
theorem repW_cyc (ws : List Int) : ∀ t : Nat, repW t ws = cycN ws (ws.length * t)
  | 0 => rfl
  | t + 1 => by rw [repW_succ, repW_cyc ws t, Nat.mul_succ, Nat.add_comm, cycN_more]
theorem repW_cycN {ws : List Int} (h : 0 < ws.length) {t : Nat} (ht : 1 ≤ t) (n : Nat) : cycN (repW t ws) n = cycN ws n := by
  unfold cycN
  refine List.map_congr_left fun i _ => ?_
  have p : 0 < ws.length * t := Nat.mul_pos h ht
  have lt := Nat.mod_lt i p
  rw [repW_len, Nat.mul_comm t, repW_cyc]
  unfold cycN
  rw [List.getD_eq_getElem?_getD, List.getElem?_map, List.getElem?_range lt]
  show ws.getD (i % (ws.length * t) % ws.length) 0 = _
  rw [Nat.mod_mod_of_dvd _ (Nat.dvd_mul_right _ _)]
theorem repW_at {ws : List Int} (h : 0 < ws.length) {t : Nat} (ht : 1 ≤ t) (s : Int) (n : Nat) : atN (repW t ws) s n = atN ws s n := by
  have h' : 0 < (repW t ws).length := by rw [repW_len]; exact Nat.mul_pos ht h
  rw [← (cycN_at h' n s).1, ← (cycN_at h n s).1, repW_cycN h ht]
theorem repW_runs {ws : List Int} {m m' : Int} {rest rest' : List (Int × Int)} (W : WT ws m rest) {t : Nat} (ht : 1 ≤ t) (W' : WT (repW t ws) m' rest') :
    m' = m ∧ stR m' rest' = stR m rest ∧ rest'.length = (rest.length + t - 1) / t := by
  have em : m' = m := by
    have h1 := W'.ok.1.1
    have h2 := W.ok.1.2 m' ((repW_mem ht ws m').mp h1)
    have h3 := W'.ok.1.2 m ((repW_mem ht ws m).mpr W.ok.1.1)
    omega
  subst em
  have ok0 := run0_ok W.ok.one
  have nest := folds_in0 W.ok.one W.ok.all
  obtain ⟨c1, c2⟩ := chain_it rest _ W.runs.ch
  obtain ⟨d1, d2⟩ := chain_it rest' _ W'.runs.ch
  simp only [repW_it] at d1 d2
  have g1 : rest.length ≤ t * rest'.length := by
    apply Nat.le_of_not_lt
    intro lt
    have e1 := d1 rest'.length (Nat.le_refl _)
    have e2 := d1 (rest'.length + 1) (by omega)
    rw [← e1, Nat.mul_succ] at e2
    obtain ⟨u, rfl⟩ : ∃ u, t = u + 1 := ⟨t - 1, by omega⟩
    exact c2 _ lt (itR_stop ok0 nest _ u e2)
  have g2 : ∀ i, i < rest'.length → t * i < rest.length := by
    intro i hi
    apply Nat.lt_of_not_le
    intro le
    exact d2 i hi (by rw [c1 _ (show rest.length ≤ t * (i + 1) by rw [Nat.mul_succ]; omega), c1 _ le])
  refine ⟨rfl, ?_, ?_⟩
  · unfold stR
    rw [← d1 rest'.length (Nat.le_refl _), c1 _ g1]
  · cases hc : rest'.length with
    | zero =>
      rw [hc, Nat.mul_zero] at g1
      rw [show rest.length = 0 by omega, Nat.div_eq_of_lt (by omega)]
    | succ c =>
      have := g2 c (by omega)
      rw [hc, Nat.mul_succ] at g1
      symm
      rw [Nat.div_eq_iff (by omega)]
      rw [Nat.succ_mul, Nat.mul_comm c t]
      omega
theorem repW_settles {ws : List Int} {T : Int × Int} (S : Stays ws T) {s : Int} (hs : s % 2 = 1) {k : Nat} (h : SettlesAt ws T s k) {t : Nat} (ht : 1 ≤ t) : SettlesAt (repW t ws) T s ((k + t - 1) / t) := by
  have e1 := Nat.div_add_mod (k + t - 1) t
  have e2 := Nat.mod_lt (k + t - 1) (show 0 < t by omega)
  refine ⟨?_, fun j hj => ?_⟩
  · rw [repW_lastN]
    exact settled_in S hs h (by omega)
  · rw [repW_lastN]
    refine h.2 _ ?_
    have := Nat.mul_le_mul_left t (show j + 1 ≤ (k + t - 1) / t by omega)
    rw [Nat.mul_succ] at this
    omega

theorem sz_abs (ws : List Int) {s : Int} (hs : s % 2 = 1) : sz (flast s ws) = sz (flast (sz s) ws) := by
  by_cases z : s < 0
  · have e : sz s = 0 - s := by unfold sz; rw [if_pos z]; omega
    rw [e, flast_neg ws hs, sz_neg]
  · have e : sz s = s := by unfold sz; rw [if_neg z]
    rw [e]
theorem szN_abs (ws : List Int) (n : Nat) {s : Int} (hs : s % 2 = 1) : sz (flastN ws n s) = sz (flastN ws n (sz s)) := by
  by_cases z : s < 0
  · have e : sz s = 0 - s := by unfold sz; rw [if_pos z]; omega
    rw [e, flastN_neg ws n hs, sz_neg]
  · have e : sz s = s := by unfold sz; rw [if_neg z]
    rw [e]
theorem mem_folds : ∀ (ws : List Int) {r : Int × Int}, OkRun r → ∀ z, InR z (foldsR r ws) ↔ ∃ x, InR x r ∧ z = sz (flast x ws)
  | [], r, h, z => by
    simp only [foldsR, flast]
    constructor
    · intro hz
      exact ⟨z, hz, by unfold sz; rw [if_neg (by have := h.1; have := hz.1; omega)]⟩
    · rintro ⟨x, hx, rfl⟩
      unfold sz
      rw [if_neg (by have := h.1; have := hx.1; omega)]
      exact hx
  | w :: ws, r, h, z => by
    simp only [foldsR, flast]
    rw [mem_folds ws (fold_ok h w) z]
    constructor
    · rintro ⟨y, hy, rfl⟩
      obtain ⟨x, hx, rfl⟩ := (mem_fold h w y).mp hy
      refine ⟨x, hx, ?_⟩
      have ex : sz x = x := by unfold sz; rw [if_neg (by have := h.1; have := hx.1; omega)]
      rw [sz_abs ws (odd_fall hx.2.2 w), sz_fall, ex]
    · rintro ⟨x, hx, rfl⟩
      refine ⟨absd x w, (mem_fold h w _).mpr ⟨x, hx, rfl⟩, ?_⟩
      have ex : sz x = x := by unfold sz; rw [if_neg (by have := h.1; have := hx.1; omega)]
      rw [sz_abs ws (odd_fall hx.2.2 w), sz_fall, ex]
theorem mem_it (ws : List Int) : ∀ (n : Nat) {r : Int × Int}, OkRun r → ∀ z, InR z (itR ws n r) ↔ ∃ x, InR x r ∧ z = sz (flastN ws n x)
  | 0, r, h, z => mem_folds [] h z
  | n + 1, r, h, z => by
    show InR z (itR ws n (foldsR r ws)) ↔ ∃ x, InR x r ∧ z = sz (flastN ws n (flast x ws))
    rw [mem_it ws n (folds_ok ws h) z]
    constructor
    · rintro ⟨y, hy, rfl⟩
      obtain ⟨x, hx, rfl⟩ := (mem_folds ws h y).mp hy
      exact ⟨x, hx, by rw [szN_abs ws n (flast_odd' ws x hx.2.2)]⟩
    · rintro ⟨x, hx, rfl⟩
      exact ⟨_, (mem_folds ws h _).mpr ⟨x, hx, rfl⟩, by rw [szN_abs ws n (flast_odd' ws x hx.2.2)]⟩
theorem setZ_it {ws : List Int} {r : Int × Int} (h : OkRun r) (n : Nat) : setZ ((oddsR r).map fun x => sz (flastN ws n x)) = oddsR (itR ws n r) := by
  refine setZ_of (fun k => ?_) (oddsR_lt _)
  rw [mem_odds (itR_ok ws n h), mem_it ws n h, List.mem_map]
  constructor
  · rintro ⟨x, a, b⟩
    exact ⟨x, (mem_odds h x).mpr a, b.symm⟩
  · rintro ⟨x, a, b⟩
    exact ⟨x, (mem_odds h x).mp a, b.symm⟩
/-- sizes never come further apart -/
theorem near_led : ∀ (ws : List Int) (a b d : Int), sz a - sz b ≤ d → sz b - sz a ≤ d → sz (flast a ws) - sz (flast b ws) ≤ d ∧ sz (flast b ws) - sz (flast a ws) ≤ d
  | [], _, _, _, h, g => ⟨h, g⟩
  | w :: ws, a, b, d, h, g => by
    simp only [flast]
    refine near_led ws _ _ d ?_ ?_
    · rw [sz_fall, sz_fall]
      unfold absd
      split <;> split <;> omega
    · rw [sz_fall, sz_fall]
      unfold absd
      split <;> split <;> omega
theorem near_ledN (ws : List Int) : ∀ (n : Nat) (a b d : Int), sz a - sz b ≤ d → sz b - sz a ≤ d → sz (flastN ws n a) - sz (flastN ws n b) ≤ d ∧ sz (flastN ws n b) - sz (flastN ws n a) ≤ d
  | 0, _, _, _, h, g => ⟨h, g⟩
  | n + 1, a, b, d, h, g => by
    obtain ⟨x, y⟩ := near_led ws a b d h g
    exact near_ledN ws n _ _ d x y
theorem chain_get {ws : List Int} : ∀ (rest : List (Int × Int)) (r : Int × Int), ChainR ws r rest → ∀ j, j ≤ rest.length → (r :: rest)[j]? = some (itR ws j r)
  | rest, r, h, 0, _ => rfl
  | [], r, h, j + 1, hj => by cases hj
  | q :: rest, r, h, j + 1, hj => by
    have := chain_get rest q h.2.2 j (by simpa using hj)
    rw [List.getElem?_cons_succ, this]
    show _ = some (itR ws j (foldsR r ws))
    rw [h.1]
theorem mem_zipD : ∀ (xs ys : List D) (x : D), x ∈ zipD xs ys → ∃ (i : Nat) (p q : D), xs[i]? = some p ∧ ys[i]? = some q ∧ x = .tup [p, q]
  | [], _, x, h => by simp [zipD] at h
  | _ :: _, [], x, h => by simp [zipD] at h
  | a :: xs, b :: ys, x, h => by
    simp only [zipD, List.mem_cons] at h
    rcases h with rfl | h
    · exact ⟨0, a, b, rfl, rfl, rfl⟩
    · obtain ⟨i, p, q, h1, h2, h3⟩ := mem_zipD xs ys x h
      exact ⟨i + 1, p, q, by simpa using h1, by simpa using h2, h3⟩
theorem zip_next (g : Int → Int) (r : Int × Int) (x : D) (h : x ∈ zipD (((oddsR r).map g).map D.int) ((((oddsR r).map g).map D.int).drop 1)) : ∃ a : Int, x = .tup [.int (g a), .int (g (a + 2))] := by
  obtain ⟨i, p, q, h1, h2, rfl⟩ := mem_zipD _ _ _ h
  rw [List.getElem?_drop] at h2
  unfold oddsR at h1 h2
  rw [List.getElem?_map, List.getElem?_map, List.getElem?_map] at h1 h2
  have lt : 1 + i < (spotR r).toNat := by
    apply Nat.lt_of_not_le
    intro z
    rw [List.getElem?_eq_none (by rw [List.length_range]; exact z)] at h2
    cases h2
  rw [List.getElem?_range (by omega)] at h1
  rw [List.getElem?_range lt] at h2
  simp only [Option.map_some, Option.some.injEq] at h1 h2
  subst h1 h2
  refine ⟨r.1 + (i : Int) * 2, ?_⟩
  rw [show r.1 + ((1 + i : Nat) : Int) * 2 = r.1 + (i : Int) * 2 + 2 by omega]
theorem zip_const {α β : Type} (c : β) : ∀ (xs : List α) (x : α) (y : β), (x, y) ∈ xs.zip (xs.map fun _ => c) → x ∈ xs ∧ y = c
  | [], _, _, h => by cases h
  | a :: xs, x, y, h => by
    simp only [List.map_cons, List.zip_cons_cons, List.mem_cons, Prod.mk.injEq] at h
    rcases h with ⟨rfl, rfl⟩ | h
    · exact ⟨List.mem_cons_self, rfl⟩
    · obtain ⟨h1, h2⟩ := zip_const c xs x y h
      exact ⟨List.mem_cons_of_mem _ h1, h2⟩
theorem sz_near (a d : Int) (h : 0 ≤ d) : sz a - sz (a + d) ≤ d ∧ sz (a + d) - sz a ≤ d := by unfold sz; constructor <;> split <;> split <;> omega
def t_lighter : DS :=
    (dRet (dIf (dTest (dOp (cmpI fun i j => decide (i < j)) (dVar 0) (dC (.int 0)))) (dC (.str "left")) (dC (.str "right"))))
theorem st_lighter (a0 : D) : startD N_lighter [a0] = [some a0] := rfl
def sp_lighter : SpD := fun ds st kk => ∃ s : Int, ds = [.int s] ∧ kk (.str (sd s)) st
theorem len_lighter (ds : List D) (st : Sto) (kk : DK) (h : sp_lighter ds st kk) : ds.length = 1 := by
  obtain ⟨s, rfl, _⟩ := h
  rfl
theorem p_lighter : BodyD false N_lighter sp_lighter t_lighter := by
  rintro ds st kk ⟨s, rfl, h⟩
  rw [st_lighter]
  simp only [t_lighter]
  (try simp only [BEq.rfl, ↓e_v0, ↓e_vs, ↓e_c, ↓e_op, ↓e_un, ↓e_test, ↓e_testK, ↓e_tru, ↓e_truL, ↓e_truT, ↓e_truB, ↓e_truI, ↓e_truN, ↓e_truS, ↓e_not, ↓e_and, ↓e_or, ↓e_andv, ↓e_orv, ↓e_notv, ↓e_andK, ↓e_orK, ↓e_notK, ↓e_if, ↓e_nil, ↓e_cons, ↓e_tup, ↓e_lst, ↓e_new, ↓e_call, ↓e_callK, ↓e_drop, ↓e_ret, ↓e_retN, ↓e_pass, ↓e_ifS, ↓e_g0, ↓e_gs, ↓e_gnil, ↓e_gcons, ↓e_gtup, ↓e_asg, ↓e_par, ↓e_parK, ↓e_par3, ↓e_par3K, ↓e_chain, ↓e_chK, ↓e_no, ↓e_some, ↓e_someK, ↓e_cut, ↓e_b, ↓e_iter, ↓e_iterL, ↓e_iterT, ↓e_iterS, ↓e_rng1, ↓e_rng1K, ↓e_rng2, ↓e_rng2K, ↓e_rng3, ↓e_rng3K, ↓e_enum, ↓e_enumL, ↓e_enumT, ↓e_zip, ↓e_zipL, ↓e_zipT, ↓e_zipM, ↓e_zipMK, ↓e_zipS, ↓e_zipSK, ↓e_for, ↓e_lc, ↓e_lcNew, ↓e_forN, ↓e_forC, ↓e_lcN, ↓e_lcC, ↓e_srcN, ↓e_srcC, ↓e_meth, ↓e_isL, ↓e_sub, ↓e_aug, ↓e_augK, ↓e_isi, ↓e_yes, ↓e_bits, ↓e_bitsK, ↓e_cLast, ↓e_cLink, ↓e_cK, ↓e_cNext, ↓e_testCh, ↓e_addI, ↓e_addB, ↓e_addS, ↓e_addT, ↓e_addL, ↓e_subI, ↓e_mulI, ↓e_mulT, ↓e_mulL, ↓e_divI, ↓e_modI, ↓e_powI, ↓e_negI, ↓e_iadd, ↓e_cmpI, ↓e_eq, ↓e_ne, ↓e_isn, ↓e_isnn, ↓e_isb, ↓e_ixL, ↓e_ixKL, ↓e_ixT, ↓e_cutL, ↓e_cutKL, ↓e_cutT, ↓e_lenL, ↓e_lenKL, ↓e_lenT, ↓e_abs, ↓e_intI, ↓e_intB, ↓e_max2, ↓e_min2, ↓e_listL, ↓e_listT, ↓e_listNL, ↓e_listNT, ↓e_tupL, ↓e_tupT, ↓e_sum1T, ↓e_sum1L, ↓e_max1T, ↓e_max1L, ↓e_drI, ↓e_drB, ↓e_drS, ↓e_drN, ↓e_drL, ↓e_drT, ↓e_seq, ↓e_back, ↓e_backL, ↓e_backT, ↓e_sortedL, ↓e_sortedNL, ↓e_divmod, ↓e_lr1, ↓e_lr1K, ↓e_lr2, ↓e_lr2K, ↓e_lr3, ↓e_lr3K, ↓e_revR1, ↓e_revR1K, ↓e_srtSet, ↓e_unlL, ↓e_inL, ↓e_inKL, ↓e_inT, ↓e_inFlat, ↓e_drK, ↓e_srtSetL, ↓e_lenSet, ↓e_lenSetL, ↓e_enumF, ↓e_enumFT, ↓e_reprL, ↓e_reprT, ↓e_reprI, ↓e_reprB, ↓e_reprN, ↓e_reprS, ↓e_strI, ↓e_isub, ↓e_strB, ↓e_addBI, ↓e_subBI, ↓e_subIB, ↓e_drG, ↓e_dnew, ↓e_dgetF, ↓e_dget1, ↓e_dget2, ↓e_dsetdS, ↓e_dgPut, ↓e_lenSetZ, ↓e_lenSetZL, e_kyI, e_kyS, Nat.reduceAdd, Nat.zero_add, List.length_cons, List.length_nil, List.length_map, Nat.reduceLeDiff, and_true, true_and, if_true, ite_true, decide_eq_true_eq, Bool.not_eq_true, Bool.false_eq_true, if_false, ite_false, ↓reduceIte, Int.reduceToNat, Int.reducePow, ne_eq, q_okI, q_okB, q_okN, q_okS, q_okL, q_okT, q_oks0, q_oks1, q_eqII, q_eqBB, q_eqSS, q_eqLL, q_eqTT, q_eqNN, q_eqNI, q_eqIN, q_eqs0, q_eqs1, Bool.true_and, Bool.and_true, beq_iff_eq, reduceCtorEq, wipeE, List.set_cons_zero, List.set_cons_succ, List.set_nil, Bool.not_true, Bool.not_false, List.getElem?_cons_zero, List.getElem?_cons_succ])
  unfold sd at h
  split <;> simp_all
def t_laid_on : DS :=
    (dRet (dIf (dTest (dOp (eqOp false) (dVar 1) (dC (.str "left")))) (dOp addD (dVar 0) (dOp mulD (dC (.int 2)) (dVar 2))) (dOp subD (dVar 0) (dOp mulD (dC (.int 2)) (dVar 2)))))
theorem st_laid_on (a0 a1 a2 : D) : startD N_laid_on [a0, a1, a2] = [some a0, some a1, some a2] := rfl
def sp_laid_on : SpD := fun ds st kk => ∃ (s w : Int) (x : Str), ds = [.int s, .str x, .int w] ∧ (x = "left" ∨ x = "right") ∧ kk (.int (if x = "left" then s + 2 * w else s - 2 * w)) st
theorem len_laid_on (ds : List D) (st : Sto) (kk : DK) (h : sp_laid_on ds st kk) : ds.length = 3 := by
  obtain ⟨s, w, x, rfl, _⟩ := h
  rfl
theorem p_laid_on : BodyD false N_laid_on sp_laid_on t_laid_on := by
  rintro ds st kk ⟨s, w, x, rfl, hx, h⟩
  rw [st_laid_on]
  simp only [t_laid_on]
  (try simp only [BEq.rfl, ↓e_v0, ↓e_vs, ↓e_c, ↓e_op, ↓e_un, ↓e_test, ↓e_testK, ↓e_tru, ↓e_truL, ↓e_truT, ↓e_truB, ↓e_truI, ↓e_truN, ↓e_truS, ↓e_not, ↓e_and, ↓e_or, ↓e_andv, ↓e_orv, ↓e_notv, ↓e_andK, ↓e_orK, ↓e_notK, ↓e_if, ↓e_nil, ↓e_cons, ↓e_tup, ↓e_lst, ↓e_new, ↓e_call, ↓e_callK, ↓e_drop, ↓e_ret, ↓e_retN, ↓e_pass, ↓e_ifS, ↓e_g0, ↓e_gs, ↓e_gnil, ↓e_gcons, ↓e_gtup, ↓e_asg, ↓e_par, ↓e_parK, ↓e_par3, ↓e_par3K, ↓e_chain, ↓e_chK, ↓e_no, ↓e_some, ↓e_someK, ↓e_cut, ↓e_b, ↓e_iter, ↓e_iterL, ↓e_iterT, ↓e_iterS, ↓e_rng1, ↓e_rng1K, ↓e_rng2, ↓e_rng2K, ↓e_rng3, ↓e_rng3K, ↓e_enum, ↓e_enumL, ↓e_enumT, ↓e_zip, ↓e_zipL, ↓e_zipT, ↓e_zipM, ↓e_zipMK, ↓e_zipS, ↓e_zipSK, ↓e_for, ↓e_lc, ↓e_lcNew, ↓e_forN, ↓e_forC, ↓e_lcN, ↓e_lcC, ↓e_srcN, ↓e_srcC, ↓e_meth, ↓e_isL, ↓e_sub, ↓e_aug, ↓e_augK, ↓e_isi, ↓e_yes, ↓e_bits, ↓e_bitsK, ↓e_cLast, ↓e_cLink, ↓e_cK, ↓e_cNext, ↓e_testCh, ↓e_addI, ↓e_addB, ↓e_addS, ↓e_addT, ↓e_addL, ↓e_subI, ↓e_mulI, ↓e_mulT, ↓e_mulL, ↓e_divI, ↓e_modI, ↓e_powI, ↓e_negI, ↓e_iadd, ↓e_cmpI, ↓e_eq, ↓e_ne, ↓e_isn, ↓e_isnn, ↓e_isb, ↓e_ixL, ↓e_ixKL, ↓e_ixT, ↓e_cutL, ↓e_cutKL, ↓e_cutT, ↓e_lenL, ↓e_lenKL, ↓e_lenT, ↓e_abs, ↓e_intI, ↓e_intB, ↓e_max2, ↓e_min2, ↓e_listL, ↓e_listT, ↓e_listNL, ↓e_listNT, ↓e_tupL, ↓e_tupT, ↓e_sum1T, ↓e_sum1L, ↓e_max1T, ↓e_max1L, ↓e_drI, ↓e_drB, ↓e_drS, ↓e_drN, ↓e_drL, ↓e_drT, ↓e_seq, ↓e_back, ↓e_backL, ↓e_backT, ↓e_sortedL, ↓e_sortedNL, ↓e_divmod, ↓e_lr1, ↓e_lr1K, ↓e_lr2, ↓e_lr2K, ↓e_lr3, ↓e_lr3K, ↓e_revR1, ↓e_revR1K, ↓e_srtSet, ↓e_unlL, ↓e_inL, ↓e_inKL, ↓e_inT, ↓e_inFlat, ↓e_drK, ↓e_srtSetL, ↓e_lenSet, ↓e_lenSetL, ↓e_enumF, ↓e_enumFT, ↓e_reprL, ↓e_reprT, ↓e_reprI, ↓e_reprB, ↓e_reprN, ↓e_reprS, ↓e_strI, ↓e_isub, ↓e_strB, ↓e_addBI, ↓e_subBI, ↓e_subIB, ↓e_drG, ↓e_dnew, ↓e_dgetF, ↓e_dget1, ↓e_dget2, ↓e_dsetdS, ↓e_dgPut, ↓e_lenSetZ, ↓e_lenSetZL, e_kyI, e_kyS, Nat.reduceAdd, Nat.zero_add, List.length_cons, List.length_nil, List.length_map, Nat.reduceLeDiff, and_true, true_and, if_true, ite_true, decide_eq_true_eq, Bool.not_eq_true, Bool.false_eq_true, if_false, ite_false, ↓reduceIte, Int.reduceToNat, Int.reducePow, ne_eq, q_okI, q_okB, q_okN, q_okS, q_okL, q_okT, q_oks0, q_oks1, q_eqII, q_eqBB, q_eqSS, q_eqLL, q_eqTT, q_eqNN, q_eqNI, q_eqIN, q_eqs0, q_eqs1, Bool.true_and, Bool.and_true, beq_iff_eq, reduceCtorEq, wipeE, List.set_cons_zero, List.set_cons_succ, List.set_nil, Bool.not_true, Bool.not_false, List.getElem?_cons_zero, List.getElem?_cons_succ])
  simp only [okD, ok_side hx, ok_left, eqD, true_and, beq_iff_eq, mul2]
  split at h <;> simp_all
def t_fall : DS :=
    (dSeq (dAsg (dCall sp_lighter (dCons (dVar 0) dNil)) (dgName 2))
    (dRet (dTup (dCons (dVar 2) (dCons (dCall sp_laid_on (dCons (dVar 0) (dCons (dVar 2) (dCons (dVar 1) dNil)))) dNil)))))
theorem st_fall (a0 a1 : D) : startD N_fall [a0, a1] = [some a0, some a1, none] := rfl
def sp_fall : SpD := fun ds st kk => ∃ s w : Int, ds = [.int s, .int w] ∧ kk (.tup [.str (sd s), .int (fallI s w)]) st
theorem len_fall (ds : List D) (st : Sto) (kk : DK) (h : sp_fall ds st kk) : ds.length = 2 := by
  obtain ⟨s, w, rfl, _⟩ := h
  rfl
theorem p_fall : BodyD false N_fall sp_fall t_fall := by
  rintro ds st kk ⟨s, w, rfl, h⟩
  rw [st_fall]
  simp only [t_fall]
  (try simp only [BEq.rfl, ↓e_v0, ↓e_vs, ↓e_c, ↓e_op, ↓e_un, ↓e_test, ↓e_testK, ↓e_tru, ↓e_truL, ↓e_truT, ↓e_truB, ↓e_truI, ↓e_truN, ↓e_truS, ↓e_not, ↓e_and, ↓e_or, ↓e_andv, ↓e_orv, ↓e_notv, ↓e_andK, ↓e_orK, ↓e_notK, ↓e_if, ↓e_nil, ↓e_cons, ↓e_tup, ↓e_lst, ↓e_new, ↓e_call, ↓e_callK, ↓e_drop, ↓e_ret, ↓e_retN, ↓e_pass, ↓e_ifS, ↓e_g0, ↓e_gs, ↓e_gnil, ↓e_gcons, ↓e_gtup, ↓e_asg, ↓e_par, ↓e_parK, ↓e_par3, ↓e_par3K, ↓e_chain, ↓e_chK, ↓e_no, ↓e_some, ↓e_someK, ↓e_cut, ↓e_b, ↓e_iter, ↓e_iterL, ↓e_iterT, ↓e_iterS, ↓e_rng1, ↓e_rng1K, ↓e_rng2, ↓e_rng2K, ↓e_rng3, ↓e_rng3K, ↓e_enum, ↓e_enumL, ↓e_enumT, ↓e_zip, ↓e_zipL, ↓e_zipT, ↓e_zipM, ↓e_zipMK, ↓e_zipS, ↓e_zipSK, ↓e_for, ↓e_lc, ↓e_lcNew, ↓e_forN, ↓e_forC, ↓e_lcN, ↓e_lcC, ↓e_srcN, ↓e_srcC, ↓e_meth, ↓e_isL, ↓e_sub, ↓e_aug, ↓e_augK, ↓e_isi, ↓e_yes, ↓e_bits, ↓e_bitsK, ↓e_cLast, ↓e_cLink, ↓e_cK, ↓e_cNext, ↓e_testCh, ↓e_addI, ↓e_addB, ↓e_addS, ↓e_addT, ↓e_addL, ↓e_subI, ↓e_mulI, ↓e_mulT, ↓e_mulL, ↓e_divI, ↓e_modI, ↓e_powI, ↓e_negI, ↓e_iadd, ↓e_cmpI, ↓e_eq, ↓e_ne, ↓e_isn, ↓e_isnn, ↓e_isb, ↓e_ixL, ↓e_ixKL, ↓e_ixT, ↓e_cutL, ↓e_cutKL, ↓e_cutT, ↓e_lenL, ↓e_lenKL, ↓e_lenT, ↓e_abs, ↓e_intI, ↓e_intB, ↓e_max2, ↓e_min2, ↓e_listL, ↓e_listT, ↓e_listNL, ↓e_listNT, ↓e_tupL, ↓e_tupT, ↓e_sum1T, ↓e_sum1L, ↓e_max1T, ↓e_max1L, ↓e_drI, ↓e_drB, ↓e_drS, ↓e_drN, ↓e_drL, ↓e_drT, ↓e_seq, ↓e_back, ↓e_backL, ↓e_backT, ↓e_sortedL, ↓e_sortedNL, ↓e_divmod, ↓e_lr1, ↓e_lr1K, ↓e_lr2, ↓e_lr2K, ↓e_lr3, ↓e_lr3K, ↓e_revR1, ↓e_revR1K, ↓e_srtSet, ↓e_unlL, ↓e_inL, ↓e_inKL, ↓e_inT, ↓e_inFlat, ↓e_drK, ↓e_srtSetL, ↓e_lenSet, ↓e_lenSetL, ↓e_enumF, ↓e_enumFT, ↓e_reprL, ↓e_reprT, ↓e_reprI, ↓e_reprB, ↓e_reprN, ↓e_reprS, ↓e_strI, ↓e_isub, ↓e_strB, ↓e_addBI, ↓e_subBI, ↓e_subIB, ↓e_drG, ↓e_dnew, ↓e_dgetF, ↓e_dget1, ↓e_dget2, ↓e_dsetdS, ↓e_dgPut, ↓e_lenSetZ, ↓e_lenSetZL, e_kyI, e_kyS, Nat.reduceAdd, Nat.zero_add, List.length_cons, List.length_nil, List.length_map, Nat.reduceLeDiff, and_true, true_and, if_true, ite_true, decide_eq_true_eq, Bool.not_eq_true, Bool.false_eq_true, if_false, ite_false, ↓reduceIte, Int.reduceToNat, Int.reducePow, ne_eq, q_okI, q_okB, q_okN, q_okS, q_okL, q_okT, q_oks0, q_oks1, q_eqII, q_eqBB, q_eqSS, q_eqLL, q_eqTT, q_eqNN, q_eqNI, q_eqIN, q_eqs0, q_eqs1, Bool.true_and, Bool.and_true, beq_iff_eq, reduceCtorEq, wipeE, List.set_cons_zero, List.set_cons_succ, List.set_nil, Bool.not_true, Bool.not_false, List.getElem?_cons_zero, List.getElem?_cons_succ])
  refine ⟨s, rfl, s, w, sd s, rfl, sd_lr s, ?_⟩
  rw [sd_fall]
  exact h
def b1_falls : DS :=
    (dSeq (dAsg (dCall sp_fall (dCons (dVar 0) (dCons (dVar 3) dNil))) (dgTup 2 (dgCons (dgName 4) (dgCons (dgName 0) dgNil))))
    (dDrop (dMeth mAppend (dVar 2) (dCons (dVar 4) dNil))))
def t_falls : DS :=
    (dSeq (dAsg (dNew dNil) (dgName 2))
    (dSeq (dFor (dIter (dVar 1)) (dgName 3) (b1_falls))
    (dRet (dTup (dCons (dVar 2) (dCons (dVar 0) dNil))))))
theorem st_falls (a0 a1 : D) : startD N_falls [a0, a1] = [some a0, some a1, none, none, none] := rfl
theorem falls_loop (rt : DK) (a1 : D) (st : Sto) (kk : DL.Env → Sto → Prop) : ∀ (ws : List Int) (s : Int) (dn : List D) (v3 v4 : Option D),
    (∀ u3 u4, kk [some (.int (flast s ws)), some a1, some (.obj st.length), u3, u4] (st ++ [dn ++ (fsides s ws).map D.str])) → dn.length + ws.length ≤ 16777216 →
    goFor [] (dgName 3) b1_falls ⟨kk, rt⟩ (ws.map D.int) [some (.int s), some a1, some (.obj st.length), v3, v4] (st ++ [dn])
  | [], s, dn, v3, v4, h, _ => by
    refine ⟨trivial, ?_⟩
    have := h v3 v4
    simp only [fsides, List.map_nil, List.append_nil, flast] at this
    exact this
  | w :: r, s, dn, v3, v4, h, hl => by
    refine ⟨trivial, ?_⟩
    simp only [b1_falls]
    (try simp only [BEq.rfl, ↓e_v0, ↓e_vs, ↓e_c, ↓e_op, ↓e_un, ↓e_test, ↓e_testK, ↓e_tru, ↓e_truL, ↓e_truT, ↓e_truB, ↓e_truI, ↓e_truN, ↓e_truS, ↓e_not, ↓e_and, ↓e_or, ↓e_andv, ↓e_orv, ↓e_notv, ↓e_andK, ↓e_orK, ↓e_notK, ↓e_if, ↓e_nil, ↓e_cons, ↓e_tup, ↓e_lst, ↓e_new, ↓e_call, ↓e_callK, ↓e_drop, ↓e_ret, ↓e_retN, ↓e_pass, ↓e_ifS, ↓e_g0, ↓e_gs, ↓e_gnil, ↓e_gcons, ↓e_gtup, ↓e_asg, ↓e_par, ↓e_parK, ↓e_par3, ↓e_par3K, ↓e_chain, ↓e_chK, ↓e_no, ↓e_some, ↓e_someK, ↓e_cut, ↓e_b, ↓e_iter, ↓e_iterL, ↓e_iterT, ↓e_iterS, ↓e_rng1, ↓e_rng1K, ↓e_rng2, ↓e_rng2K, ↓e_rng3, ↓e_rng3K, ↓e_enum, ↓e_enumL, ↓e_enumT, ↓e_zip, ↓e_zipL, ↓e_zipT, ↓e_zipM, ↓e_zipMK, ↓e_zipS, ↓e_zipSK, ↓e_for, ↓e_lc, ↓e_lcNew, ↓e_forN, ↓e_forC, ↓e_lcN, ↓e_lcC, ↓e_srcN, ↓e_srcC, ↓e_meth, ↓e_isL, ↓e_sub, ↓e_aug, ↓e_augK, ↓e_isi, ↓e_yes, ↓e_bits, ↓e_bitsK, ↓e_cLast, ↓e_cLink, ↓e_cK, ↓e_cNext, ↓e_testCh, ↓e_addI, ↓e_addB, ↓e_addS, ↓e_addT, ↓e_addL, ↓e_subI, ↓e_mulI, ↓e_mulT, ↓e_mulL, ↓e_divI, ↓e_modI, ↓e_powI, ↓e_negI, ↓e_iadd, ↓e_cmpI, ↓e_eq, ↓e_ne, ↓e_isn, ↓e_isnn, ↓e_isb, ↓e_ixL, ↓e_ixKL, ↓e_ixT, ↓e_cutL, ↓e_cutKL, ↓e_cutT, ↓e_lenL, ↓e_lenKL, ↓e_lenT, ↓e_abs, ↓e_intI, ↓e_intB, ↓e_max2, ↓e_min2, ↓e_listL, ↓e_listT, ↓e_listNL, ↓e_listNT, ↓e_tupL, ↓e_tupT, ↓e_sum1T, ↓e_sum1L, ↓e_max1T, ↓e_max1L, ↓e_drI, ↓e_drB, ↓e_drS, ↓e_drN, ↓e_drL, ↓e_drT, ↓e_seq, ↓e_back, ↓e_backL, ↓e_backT, ↓e_sortedL, ↓e_sortedNL, ↓e_divmod, ↓e_lr1, ↓e_lr1K, ↓e_lr2, ↓e_lr2K, ↓e_lr3, ↓e_lr3K, ↓e_revR1, ↓e_revR1K, ↓e_srtSet, ↓e_unlL, ↓e_inL, ↓e_inKL, ↓e_inT, ↓e_inFlat, ↓e_drK, ↓e_srtSetL, ↓e_lenSet, ↓e_lenSetL, ↓e_enumF, ↓e_enumFT, ↓e_reprL, ↓e_reprT, ↓e_reprI, ↓e_reprB, ↓e_reprN, ↓e_reprS, ↓e_strI, ↓e_isub, ↓e_strB, ↓e_addBI, ↓e_subBI, ↓e_subIB, ↓e_drG, ↓e_dnew, ↓e_dgetF, ↓e_dget1, ↓e_dget2, ↓e_dsetdS, ↓e_dgPut, ↓e_lenSetZ, ↓e_lenSetZL, e_kyI, e_kyS, Nat.reduceAdd, Nat.zero_add, List.length_cons, List.length_nil, List.length_map, Nat.reduceLeDiff, and_true, true_and, if_true, ite_true, decide_eq_true_eq, Bool.not_eq_true, Bool.false_eq_true, if_false, ite_false, ↓reduceIte, Int.reduceToNat, Int.reducePow, ne_eq, q_okI, q_okB, q_okN, q_okS, q_okL, q_okT, q_oks0, q_oks1, q_eqII, q_eqBB, q_eqSS, q_eqLL, q_eqTT, q_eqNN, q_eqNI, q_eqIN, q_eqs0, q_eqs1, Bool.true_and, Bool.and_true, beq_iff_eq, reduceCtorEq, wipeE, List.set_cons_zero, List.set_cons_succ, List.set_nil, Bool.not_true, Bool.not_false, List.getElem?_cons_zero, List.getElem?_cons_succ, e_isO (List.getElem?_concat_length ..), e_app (List.getElem?_concat_length ..)])
    refine ⟨s, w, rfl, ?_⟩
    (try simp only [BEq.rfl, ↓e_v0, ↓e_vs, ↓e_c, ↓e_op, ↓e_un, ↓e_test, ↓e_testK, ↓e_tru, ↓e_truL, ↓e_truT, ↓e_truB, ↓e_truI, ↓e_truN, ↓e_truS, ↓e_not, ↓e_and, ↓e_or, ↓e_andv, ↓e_orv, ↓e_notv, ↓e_andK, ↓e_orK, ↓e_notK, ↓e_if, ↓e_nil, ↓e_cons, ↓e_tup, ↓e_lst, ↓e_new, ↓e_call, ↓e_callK, ↓e_drop, ↓e_ret, ↓e_retN, ↓e_pass, ↓e_ifS, ↓e_g0, ↓e_gs, ↓e_gnil, ↓e_gcons, ↓e_gtup, ↓e_asg, ↓e_par, ↓e_parK, ↓e_par3, ↓e_par3K, ↓e_chain, ↓e_chK, ↓e_no, ↓e_some, ↓e_someK, ↓e_cut, ↓e_b, ↓e_iter, ↓e_iterL, ↓e_iterT, ↓e_iterS, ↓e_rng1, ↓e_rng1K, ↓e_rng2, ↓e_rng2K, ↓e_rng3, ↓e_rng3K, ↓e_enum, ↓e_enumL, ↓e_enumT, ↓e_zip, ↓e_zipL, ↓e_zipT, ↓e_zipM, ↓e_zipMK, ↓e_zipS, ↓e_zipSK, ↓e_for, ↓e_lc, ↓e_lcNew, ↓e_forN, ↓e_forC, ↓e_lcN, ↓e_lcC, ↓e_srcN, ↓e_srcC, ↓e_meth, ↓e_isL, ↓e_sub, ↓e_aug, ↓e_augK, ↓e_isi, ↓e_yes, ↓e_bits, ↓e_bitsK, ↓e_cLast, ↓e_cLink, ↓e_cK, ↓e_cNext, ↓e_testCh, ↓e_addI, ↓e_addB, ↓e_addS, ↓e_addT, ↓e_addL, ↓e_subI, ↓e_mulI, ↓e_mulT, ↓e_mulL, ↓e_divI, ↓e_modI, ↓e_powI, ↓e_negI, ↓e_iadd, ↓e_cmpI, ↓e_eq, ↓e_ne, ↓e_isn, ↓e_isnn, ↓e_isb, ↓e_ixL, ↓e_ixKL, ↓e_ixT, ↓e_cutL, ↓e_cutKL, ↓e_cutT, ↓e_lenL, ↓e_lenKL, ↓e_lenT, ↓e_abs, ↓e_intI, ↓e_intB, ↓e_max2, ↓e_min2, ↓e_listL, ↓e_listT, ↓e_listNL, ↓e_listNT, ↓e_tupL, ↓e_tupT, ↓e_sum1T, ↓e_sum1L, ↓e_max1T, ↓e_max1L, ↓e_drI, ↓e_drB, ↓e_drS, ↓e_drN, ↓e_drL, ↓e_drT, ↓e_seq, ↓e_back, ↓e_backL, ↓e_backT, ↓e_sortedL, ↓e_sortedNL, ↓e_divmod, ↓e_lr1, ↓e_lr1K, ↓e_lr2, ↓e_lr2K, ↓e_lr3, ↓e_lr3K, ↓e_revR1, ↓e_revR1K, ↓e_srtSet, ↓e_unlL, ↓e_inL, ↓e_inKL, ↓e_inT, ↓e_inFlat, ↓e_drK, ↓e_srtSetL, ↓e_lenSet, ↓e_lenSetL, ↓e_enumF, ↓e_enumFT, ↓e_reprL, ↓e_reprT, ↓e_reprI, ↓e_reprB, ↓e_reprN, ↓e_reprS, ↓e_strI, ↓e_isub, ↓e_strB, ↓e_addBI, ↓e_subBI, ↓e_subIB, ↓e_drG, ↓e_dnew, ↓e_dgetF, ↓e_dget1, ↓e_dget2, ↓e_dsetdS, ↓e_dgPut, ↓e_lenSetZ, ↓e_lenSetZL, e_kyI, e_kyS, Nat.reduceAdd, Nat.zero_add, List.length_cons, List.length_nil, List.length_map, Nat.reduceLeDiff, and_true, true_and, if_true, ite_true, decide_eq_true_eq, Bool.not_eq_true, Bool.false_eq_true, if_false, ite_false, ↓reduceIte, Int.reduceToNat, Int.reducePow, ne_eq, q_okI, q_okB, q_okN, q_okS, q_okL, q_okT, q_oks0, q_oks1, q_eqII, q_eqBB, q_eqSS, q_eqLL, q_eqTT, q_eqNN, q_eqNI, q_eqIN, q_eqs0, q_eqs1, Bool.true_and, Bool.and_true, beq_iff_eq, reduceCtorEq, wipeE, List.set_cons_zero, List.set_cons_succ, List.set_nil, Bool.not_true, Bool.not_false, List.getElem?_cons_zero, List.getElem?_cons_succ, e_isO (List.getElem?_concat_length ..), e_app (List.getElem?_concat_length ..)])
    simp only [List.length_cons] at hl
    refine ⟨by omega, ?_⟩
    have e : (st ++ [dn]).set st.length (dn ++ [D.str (sd s)]) = st ++ [dn ++ [D.str (sd s)]] := by simp
    rw [e]
    refine falls_loop rt a1 st kk r (fallI s w) (dn ++ [D.str (sd s)]) _ _ (fun u3 u4 => ?_) (by simp; omega)
    have := h u3 u4
    simp only [fsides, List.map_cons, flast] at this
    simpa using this
def sp_falls : SpD := fun ds st kk => ∃ (s : Int) (ws : List Int), ds = [.int s, .tup (ws.map D.int)] ∧ kk (.tup [.lst ((fsides s ws).map D.str), .int (flast s ws)]) st
theorem len_falls (ds : List D) (st : Sto) (kk : DK) (h : sp_falls ds st kk) : ds.length = 2 := by
  obtain ⟨s, ws, rfl, _⟩ := h
  rfl
theorem p_falls : BodyD true N_falls sp_falls t_falls := by
  rintro ds st kk ⟨s, ws, rfl, h⟩
  rw [st_falls]
  simp only [t_falls]
  (try simp only [BEq.rfl, ↓e_v0, ↓e_vs, ↓e_c, ↓e_op, ↓e_un, ↓e_test, ↓e_testK, ↓e_tru, ↓e_truL, ↓e_truT, ↓e_truB, ↓e_truI, ↓e_truN, ↓e_truS, ↓e_not, ↓e_and, ↓e_or, ↓e_andv, ↓e_orv, ↓e_notv, ↓e_andK, ↓e_orK, ↓e_notK, ↓e_if, ↓e_nil, ↓e_cons, ↓e_tup, ↓e_lst, ↓e_new, ↓e_call, ↓e_callK, ↓e_drop, ↓e_ret, ↓e_retN, ↓e_pass, ↓e_ifS, ↓e_g0, ↓e_gs, ↓e_gnil, ↓e_gcons, ↓e_gtup, ↓e_asg, ↓e_par, ↓e_parK, ↓e_par3, ↓e_par3K, ↓e_chain, ↓e_chK, ↓e_no, ↓e_some, ↓e_someK, ↓e_cut, ↓e_b, ↓e_iter, ↓e_iterL, ↓e_iterT, ↓e_iterS, ↓e_rng1, ↓e_rng1K, ↓e_rng2, ↓e_rng2K, ↓e_rng3, ↓e_rng3K, ↓e_enum, ↓e_enumL, ↓e_enumT, ↓e_zip, ↓e_zipL, ↓e_zipT, ↓e_zipM, ↓e_zipMK, ↓e_zipS, ↓e_zipSK, ↓e_for, ↓e_lc, ↓e_lcNew, ↓e_forN, ↓e_forC, ↓e_lcN, ↓e_lcC, ↓e_srcN, ↓e_srcC, ↓e_meth, ↓e_isL, ↓e_sub, ↓e_aug, ↓e_augK, ↓e_isi, ↓e_yes, ↓e_bits, ↓e_bitsK, ↓e_cLast, ↓e_cLink, ↓e_cK, ↓e_cNext, ↓e_testCh, ↓e_addI, ↓e_addB, ↓e_addS, ↓e_addT, ↓e_addL, ↓e_subI, ↓e_mulI, ↓e_mulT, ↓e_mulL, ↓e_divI, ↓e_modI, ↓e_powI, ↓e_negI, ↓e_iadd, ↓e_cmpI, ↓e_eq, ↓e_ne, ↓e_isn, ↓e_isnn, ↓e_isb, ↓e_ixL, ↓e_ixKL, ↓e_ixT, ↓e_cutL, ↓e_cutKL, ↓e_cutT, ↓e_lenL, ↓e_lenKL, ↓e_lenT, ↓e_abs, ↓e_intI, ↓e_intB, ↓e_max2, ↓e_min2, ↓e_listL, ↓e_listT, ↓e_listNL, ↓e_listNT, ↓e_tupL, ↓e_tupT, ↓e_sum1T, ↓e_sum1L, ↓e_max1T, ↓e_max1L, ↓e_drI, ↓e_drB, ↓e_drS, ↓e_drN, ↓e_drL, ↓e_drT, ↓e_seq, ↓e_back, ↓e_backL, ↓e_backT, ↓e_sortedL, ↓e_sortedNL, ↓e_divmod, ↓e_lr1, ↓e_lr1K, ↓e_lr2, ↓e_lr2K, ↓e_lr3, ↓e_lr3K, ↓e_revR1, ↓e_revR1K, ↓e_srtSet, ↓e_unlL, ↓e_inL, ↓e_inKL, ↓e_inT, ↓e_inFlat, ↓e_drK, ↓e_srtSetL, ↓e_lenSet, ↓e_lenSetL, ↓e_enumF, ↓e_enumFT, ↓e_reprL, ↓e_reprT, ↓e_reprI, ↓e_reprB, ↓e_reprN, ↓e_reprS, ↓e_strI, ↓e_isub, ↓e_strB, ↓e_addBI, ↓e_subBI, ↓e_subIB, ↓e_drG, ↓e_dnew, ↓e_dgetF, ↓e_dget1, ↓e_dget2, ↓e_dsetdS, ↓e_dgPut, ↓e_lenSetZ, ↓e_lenSetZL, e_kyI, e_kyS, Nat.reduceAdd, Nat.zero_add, List.length_cons, List.length_nil, List.length_map, Nat.reduceLeDiff, and_true, true_and, if_true, ite_true, decide_eq_true_eq, Bool.not_eq_true, Bool.false_eq_true, if_false, ite_false, ↓reduceIte, Int.reduceToNat, Int.reducePow, ne_eq, q_okI, q_okB, q_okN, q_okS, q_okL, q_okT, q_oks0, q_oks1, q_eqII, q_eqBB, q_eqSS, q_eqLL, q_eqTT, q_eqNN, q_eqNI, q_eqIN, q_eqs0, q_eqs1, Bool.true_and, Bool.and_true, beq_iff_eq, reduceCtorEq, wipeE, List.set_cons_zero, List.set_cons_succ, List.set_nil, Bool.not_true, Bool.not_false, List.getElem?_cons_zero, List.getElem?_cons_succ])
  refine fun hl => ?_
  refine falls_loop _ _ st _ ws s [] _ _ (fun u3 u4 => ?_) (by simpa using hl)
  (try simp only [BEq.rfl, ↓e_v0, ↓e_vs, ↓e_c, ↓e_op, ↓e_un, ↓e_test, ↓e_testK, ↓e_tru, ↓e_truL, ↓e_truT, ↓e_truB, ↓e_truI, ↓e_truN, ↓e_truS, ↓e_not, ↓e_and, ↓e_or, ↓e_andv, ↓e_orv, ↓e_notv, ↓e_andK, ↓e_orK, ↓e_notK, ↓e_if, ↓e_nil, ↓e_cons, ↓e_tup, ↓e_lst, ↓e_new, ↓e_call, ↓e_callK, ↓e_drop, ↓e_ret, ↓e_retN, ↓e_pass, ↓e_ifS, ↓e_g0, ↓e_gs, ↓e_gnil, ↓e_gcons, ↓e_gtup, ↓e_asg, ↓e_par, ↓e_parK, ↓e_par3, ↓e_par3K, ↓e_chain, ↓e_chK, ↓e_no, ↓e_some, ↓e_someK, ↓e_cut, ↓e_b, ↓e_iter, ↓e_iterL, ↓e_iterT, ↓e_iterS, ↓e_rng1, ↓e_rng1K, ↓e_rng2, ↓e_rng2K, ↓e_rng3, ↓e_rng3K, ↓e_enum, ↓e_enumL, ↓e_enumT, ↓e_zip, ↓e_zipL, ↓e_zipT, ↓e_zipM, ↓e_zipMK, ↓e_zipS, ↓e_zipSK, ↓e_for, ↓e_lc, ↓e_lcNew, ↓e_forN, ↓e_forC, ↓e_lcN, ↓e_lcC, ↓e_srcN, ↓e_srcC, ↓e_meth, ↓e_isL, ↓e_sub, ↓e_aug, ↓e_augK, ↓e_isi, ↓e_yes, ↓e_bits, ↓e_bitsK, ↓e_cLast, ↓e_cLink, ↓e_cK, ↓e_cNext, ↓e_testCh, ↓e_addI, ↓e_addB, ↓e_addS, ↓e_addT, ↓e_addL, ↓e_subI, ↓e_mulI, ↓e_mulT, ↓e_mulL, ↓e_divI, ↓e_modI, ↓e_powI, ↓e_negI, ↓e_iadd, ↓e_cmpI, ↓e_eq, ↓e_ne, ↓e_isn, ↓e_isnn, ↓e_isb, ↓e_ixL, ↓e_ixKL, ↓e_ixT, ↓e_cutL, ↓e_cutKL, ↓e_cutT, ↓e_lenL, ↓e_lenKL, ↓e_lenT, ↓e_abs, ↓e_intI, ↓e_intB, ↓e_max2, ↓e_min2, ↓e_listL, ↓e_listT, ↓e_listNL, ↓e_listNT, ↓e_tupL, ↓e_tupT, ↓e_sum1T, ↓e_sum1L, ↓e_max1T, ↓e_max1L, ↓e_drI, ↓e_drB, ↓e_drS, ↓e_drN, ↓e_drL, ↓e_drT, ↓e_seq, ↓e_back, ↓e_backL, ↓e_backT, ↓e_sortedL, ↓e_sortedNL, ↓e_divmod, ↓e_lr1, ↓e_lr1K, ↓e_lr2, ↓e_lr2K, ↓e_lr3, ↓e_lr3K, ↓e_revR1, ↓e_revR1K, ↓e_srtSet, ↓e_unlL, ↓e_inL, ↓e_inKL, ↓e_inT, ↓e_inFlat, ↓e_drK, ↓e_srtSetL, ↓e_lenSet, ↓e_lenSetL, ↓e_enumF, ↓e_enumFT, ↓e_reprL, ↓e_reprT, ↓e_reprI, ↓e_reprB, ↓e_reprN, ↓e_reprS, ↓e_strI, ↓e_isub, ↓e_strB, ↓e_addBI, ↓e_subBI, ↓e_subIB, ↓e_drG, ↓e_dnew, ↓e_dgetF, ↓e_dget1, ↓e_dget2, ↓e_dsetdS, ↓e_dgPut, ↓e_lenSetZ, ↓e_lenSetZL, e_kyI, e_kyS, Nat.reduceAdd, Nat.zero_add, List.length_cons, List.length_nil, List.length_map, Nat.reduceLeDiff, and_true, true_and, if_true, ite_true, decide_eq_true_eq, Bool.not_eq_true, Bool.false_eq_true, if_false, ite_false, ↓reduceIte, Int.reduceToNat, Int.reducePow, ne_eq, q_okI, q_okB, q_okN, q_okS, q_okL, q_okT, q_oks0, q_oks1, q_eqII, q_eqBB, q_eqSS, q_eqLL, q_eqTT, q_eqNN, q_eqNI, q_eqIN, q_eqs0, q_eqs1, Bool.true_and, Bool.and_true, beq_iff_eq, reduceCtorEq, wipeE, List.set_cons_zero, List.set_cons_succ, List.set_nil, Bool.not_true, Bool.not_false, List.getElem?_cons_zero, List.getElem?_cons_succ])
  refine .one (by simpa using belows_str _ _) ?_
  simp only [sub, subs, if_true, List.nil_append]
  exact h
def t_spot_of : DS :=
    (dSeq (dAsg (dOp ixD (dCall sp_falls (dCons (dVar 1) (dCons (dVar 0) dNil))) (dC (.int 1))) (dgName 2))
    (dRet (dTup (dCons (dB bAbs (dCons (dVar 2) dNil)) (dCons (dOp (cmpI fun i j => decide (i < j)) (dVar 2) (dC (.int 0))) dNil)))))
theorem st_spot_of (a0 a1 : D) : startD N_spot_of [a0, a1] = [some a0, some a1, none] := rfl
def spotI (ws : List Int) (x : Int) : Int × Bool := (sz (flast x ws), decide (flast x ws < 0))
def pairD (p : Int × Bool) : D := .tup [.int p.1, .bl p.2]
def stripL (ws : List Int) (h : Int) : List D := ((oddsR (1, 2 * h - 1)).map (spotI ws)).map pairD
def stripD (ws : List Int) (h : Int) : D := .lst (stripL ws h)
def sp_spot_of : SpD := fun ds st kk => ∃ (ws : List Int) (s : Int), ds = [.tup (ws.map D.int), .int s] ∧ kk (pairD (spotI ws s)) st
theorem len_spot_of (ds : List D) (st : Sto) (kk : DK) (h : sp_spot_of ds st kk) : ds.length = 2 := by
  obtain ⟨_, _, rfl, _⟩ := h
  rfl
theorem p_spot_of : BodyD false N_spot_of sp_spot_of t_spot_of := by
  rintro ds st kk ⟨ws, s, rfl, h⟩
  rw [st_spot_of]
  simp only [t_spot_of]
  (try simp only [BEq.rfl, ↓e_v0, ↓e_vs, ↓e_c, ↓e_op, ↓e_un, ↓e_test, ↓e_testK, ↓e_tru, ↓e_truL, ↓e_truT, ↓e_truB, ↓e_truI, ↓e_truN, ↓e_truS, ↓e_not, ↓e_and, ↓e_or, ↓e_andv, ↓e_orv, ↓e_notv, ↓e_andK, ↓e_orK, ↓e_notK, ↓e_if, ↓e_nil, ↓e_cons, ↓e_tup, ↓e_lst, ↓e_new, ↓e_call, ↓e_callK, ↓e_drop, ↓e_ret, ↓e_retN, ↓e_pass, ↓e_ifS, ↓e_g0, ↓e_gs, ↓e_gnil, ↓e_gcons, ↓e_gtup, ↓e_asg, ↓e_par, ↓e_parK, ↓e_par3, ↓e_par3K, ↓e_chain, ↓e_chK, ↓e_no, ↓e_some, ↓e_someK, ↓e_cut, ↓e_b, ↓e_iter, ↓e_iterL, ↓e_iterT, ↓e_iterS, ↓e_rng1, ↓e_rng1K, ↓e_rng2, ↓e_rng2K, ↓e_rng3, ↓e_rng3K, ↓e_enum, ↓e_enumL, ↓e_enumT, ↓e_zip, ↓e_zipL, ↓e_zipT, ↓e_zipM, ↓e_zipMK, ↓e_zipS, ↓e_zipSK, ↓e_for, ↓e_lc, ↓e_lcNew, ↓e_forN, ↓e_forC, ↓e_lcN, ↓e_lcC, ↓e_srcN, ↓e_srcC, ↓e_meth, ↓e_isL, ↓e_sub, ↓e_aug, ↓e_augK, ↓e_isi, ↓e_yes, ↓e_bits, ↓e_bitsK, ↓e_cLast, ↓e_cLink, ↓e_cK, ↓e_cNext, ↓e_testCh, ↓e_addI, ↓e_addB, ↓e_addS, ↓e_addT, ↓e_addL, ↓e_subI, ↓e_mulI, ↓e_mulT, ↓e_mulL, ↓e_divI, ↓e_modI, ↓e_powI, ↓e_negI, ↓e_iadd, ↓e_cmpI, ↓e_eq, ↓e_ne, ↓e_isn, ↓e_isnn, ↓e_isb, ↓e_ixL, ↓e_ixKL, ↓e_ixT, ↓e_cutL, ↓e_cutKL, ↓e_cutT, ↓e_lenL, ↓e_lenKL, ↓e_lenT, ↓e_abs, ↓e_intI, ↓e_intB, ↓e_max2, ↓e_min2, ↓e_listL, ↓e_listT, ↓e_listNL, ↓e_listNT, ↓e_tupL, ↓e_tupT, ↓e_sum1T, ↓e_sum1L, ↓e_max1T, ↓e_max1L, ↓e_drI, ↓e_drB, ↓e_drS, ↓e_drN, ↓e_drL, ↓e_drT, ↓e_seq, ↓e_back, ↓e_backL, ↓e_backT, ↓e_sortedL, ↓e_sortedNL, ↓e_divmod, ↓e_lr1, ↓e_lr1K, ↓e_lr2, ↓e_lr2K, ↓e_lr3, ↓e_lr3K, ↓e_revR1, ↓e_revR1K, ↓e_srtSet, ↓e_unlL, ↓e_inL, ↓e_inKL, ↓e_inT, ↓e_inFlat, ↓e_drK, ↓e_srtSetL, ↓e_lenSet, ↓e_lenSetL, ↓e_enumF, ↓e_enumFT, ↓e_reprL, ↓e_reprT, ↓e_reprI, ↓e_reprB, ↓e_reprN, ↓e_reprS, ↓e_strI, ↓e_isub, ↓e_strB, ↓e_addBI, ↓e_subBI, ↓e_subIB, ↓e_drG, ↓e_dnew, ↓e_dgetF, ↓e_dget1, ↓e_dget2, ↓e_dsetdS, ↓e_dgPut, ↓e_lenSetZ, ↓e_lenSetZL, e_kyI, e_kyS, Nat.reduceAdd, Nat.zero_add, List.length_cons, List.length_nil, List.length_map, Nat.reduceLeDiff, and_true, true_and, if_true, ite_true, decide_eq_true_eq, Bool.not_eq_true, Bool.false_eq_true, if_false, ite_false, ↓reduceIte, Int.reduceToNat, Int.reducePow, ne_eq, q_okI, q_okB, q_okN, q_okS, q_okL, q_okT, q_oks0, q_oks1, q_eqII, q_eqBB, q_eqSS, q_eqLL, q_eqTT, q_eqNN, q_eqNI, q_eqIN, q_eqs0, q_eqs1, Bool.true_and, Bool.and_true, beq_iff_eq, reduceCtorEq, wipeE, List.set_cons_zero, List.set_cons_succ, List.set_nil, Bool.not_true, Bool.not_false, List.getElem?_cons_zero, List.getElem?_cons_succ])
  refine ⟨s, ws, rfl, ?_⟩
  (try simp only [BEq.rfl, ↓e_v0, ↓e_vs, ↓e_c, ↓e_op, ↓e_un, ↓e_test, ↓e_testK, ↓e_tru, ↓e_truL, ↓e_truT, ↓e_truB, ↓e_truI, ↓e_truN, ↓e_truS, ↓e_not, ↓e_and, ↓e_or, ↓e_andv, ↓e_orv, ↓e_notv, ↓e_andK, ↓e_orK, ↓e_notK, ↓e_if, ↓e_nil, ↓e_cons, ↓e_tup, ↓e_lst, ↓e_new, ↓e_call, ↓e_callK, ↓e_drop, ↓e_ret, ↓e_retN, ↓e_pass, ↓e_ifS, ↓e_g0, ↓e_gs, ↓e_gnil, ↓e_gcons, ↓e_gtup, ↓e_asg, ↓e_par, ↓e_parK, ↓e_par3, ↓e_par3K, ↓e_chain, ↓e_chK, ↓e_no, ↓e_some, ↓e_someK, ↓e_cut, ↓e_b, ↓e_iter, ↓e_iterL, ↓e_iterT, ↓e_iterS, ↓e_rng1, ↓e_rng1K, ↓e_rng2, ↓e_rng2K, ↓e_rng3, ↓e_rng3K, ↓e_enum, ↓e_enumL, ↓e_enumT, ↓e_zip, ↓e_zipL, ↓e_zipT, ↓e_zipM, ↓e_zipMK, ↓e_zipS, ↓e_zipSK, ↓e_for, ↓e_lc, ↓e_lcNew, ↓e_forN, ↓e_forC, ↓e_lcN, ↓e_lcC, ↓e_srcN, ↓e_srcC, ↓e_meth, ↓e_isL, ↓e_sub, ↓e_aug, ↓e_augK, ↓e_isi, ↓e_yes, ↓e_bits, ↓e_bitsK, ↓e_cLast, ↓e_cLink, ↓e_cK, ↓e_cNext, ↓e_testCh, ↓e_addI, ↓e_addB, ↓e_addS, ↓e_addT, ↓e_addL, ↓e_subI, ↓e_mulI, ↓e_mulT, ↓e_mulL, ↓e_divI, ↓e_modI, ↓e_powI, ↓e_negI, ↓e_iadd, ↓e_cmpI, ↓e_eq, ↓e_ne, ↓e_isn, ↓e_isnn, ↓e_isb, ↓e_ixL, ↓e_ixKL, ↓e_ixT, ↓e_cutL, ↓e_cutKL, ↓e_cutT, ↓e_lenL, ↓e_lenKL, ↓e_lenT, ↓e_abs, ↓e_intI, ↓e_intB, ↓e_max2, ↓e_min2, ↓e_listL, ↓e_listT, ↓e_listNL, ↓e_listNT, ↓e_tupL, ↓e_tupT, ↓e_sum1T, ↓e_sum1L, ↓e_max1T, ↓e_max1L, ↓e_drI, ↓e_drB, ↓e_drS, ↓e_drN, ↓e_drL, ↓e_drT, ↓e_seq, ↓e_back, ↓e_backL, ↓e_backT, ↓e_sortedL, ↓e_sortedNL, ↓e_divmod, ↓e_lr1, ↓e_lr1K, ↓e_lr2, ↓e_lr2K, ↓e_lr3, ↓e_lr3K, ↓e_revR1, ↓e_revR1K, ↓e_srtSet, ↓e_unlL, ↓e_inL, ↓e_inKL, ↓e_inT, ↓e_inFlat, ↓e_drK, ↓e_srtSetL, ↓e_lenSet, ↓e_lenSetL, ↓e_enumF, ↓e_enumFT, ↓e_reprL, ↓e_reprT, ↓e_reprI, ↓e_reprB, ↓e_reprN, ↓e_reprS, ↓e_strI, ↓e_isub, ↓e_strB, ↓e_addBI, ↓e_subBI, ↓e_subIB, ↓e_drG, ↓e_dnew, ↓e_dgetF, ↓e_dget1, ↓e_dget2, ↓e_dsetdS, ↓e_dgPut, ↓e_lenSetZ, ↓e_lenSetZL, e_kyI, e_kyS, Nat.reduceAdd, Nat.zero_add, List.length_cons, List.length_nil, List.length_map, Nat.reduceLeDiff, and_true, true_and, if_true, ite_true, decide_eq_true_eq, Bool.not_eq_true, Bool.false_eq_true, if_false, ite_false, ↓reduceIte, Int.reduceToNat, Int.reducePow, ne_eq, q_okI, q_okB, q_okN, q_okS, q_okL, q_okT, q_oks0, q_oks1, q_eqII, q_eqBB, q_eqSS, q_eqLL, q_eqTT, q_eqNN, q_eqNI, q_eqIN, q_eqs0, q_eqs1, Bool.true_and, Bool.and_true, beq_iff_eq, reduceCtorEq, wipeE, List.set_cons_zero, List.set_cons_succ, List.set_nil, Bool.not_true, Bool.not_false, List.getElem?_cons_zero, List.getElem?_cons_succ, p1, Option.some.injEq, exists_eq_left'])
  exact h
def e1_strip : DE :=
    (dCall sp_spot_of (dCons (dVar 0) (dCons (dVar 2) dNil)))
def t_strip : DS :=
    (dRet (dLcNew (dRng3 (dC (.int 1)) (dOp mulD (dC (.int 2)) (dVar 1)) (dC (.int 2))) (dgName 2) dYes (e1_strip) [2]))
theorem st_strip (a0 a1 : D) : startD N_strip [a0, a1] = [some a0, some a1, none] := rfl
theorem okDs_pairs (n : Nat) : ∀ xs : List (Int × Bool), okDs (n + 1) (xs.map pairD) = true
  | [] => by simp only [List.map_nil, okDs]
  | x :: r => by
    simp only [List.map_cons, okDs, pairD, okD, Bool.and_true, Bool.true_and]
    exact okDs_pairs n r
theorem okD_strip (n : Nat) (ws : List Int) (h : Int) : okD (n + 2) (stripD ws h) = true := by
  simp only [stripD, okD]
  exact okDs_pairs n _
theorem stripL_len (ws : List Int) {h : Int} (h1 : 1 ≤ h) : (stripL ws h).length = h.toNat := by
  unfold stripL
  rw [List.length_map, List.length_map, oddsR_length]
  unfold spotR
  dsimp only
  omega
theorem strip_rng {h : Int} (h1 : 1 ≤ h) : stepD 1 2 h.toNat = (oddsR (1, 2 * h - 1)).map D.int := by
  rw [← stepD_odds, show (spotR (1, 2 * h - 1)).toNat = h.toNat by unfold spotR; dsimp only; omega]
theorem belows_pairs (n : Nat) : ∀ xs : List (Int × Bool), belows n (xs.map pairD) = true
  | [] => rfl
  | x :: r => by
    simp only [List.map_cons, belows, pairD, below, Bool.and_true, Bool.true_and]
    exact belows_pairs n r
def sp_strip : SpD := fun ds st kk => ∃ (ws : List Int) (h : Int), ds = [.tup (ws.map D.int), .int h] ∧ 1 ≤ h ∧ h ≤ 1000 ∧ kk (stripD ws h) st
theorem len_strip (ds : List D) (st : Sto) (kk : DK) (h : sp_strip ds st kk) : ds.length = 2 := by
  obtain ⟨_, _, rfl, _⟩ := h
  rfl
theorem run_strip (D0 : DEnds) (ws : List Int) (h : Int) (st : Sto) (h1 : 1 ≤ h) (h2 : h ≤ 1000) (q : D0.rt (.obj st.length) (st ++ [stripL ws h])) : t_strip D0 [some (.tup (ws.map D.int)), some (.int h), none] st := by
  simp only [t_strip]
  (try simp only [BEq.rfl, ↓e_v0, ↓e_vs, ↓e_c, ↓e_op, ↓e_un, ↓e_test, ↓e_testK, ↓e_tru, ↓e_truL, ↓e_truT, ↓e_truB, ↓e_truI, ↓e_truN, ↓e_truS, ↓e_not, ↓e_and, ↓e_or, ↓e_andv, ↓e_orv, ↓e_notv, ↓e_andK, ↓e_orK, ↓e_notK, ↓e_if, ↓e_nil, ↓e_cons, ↓e_tup, ↓e_lst, ↓e_new, ↓e_call, ↓e_callK, ↓e_drop, ↓e_ret, ↓e_retN, ↓e_pass, ↓e_ifS, ↓e_g0, ↓e_gs, ↓e_gnil, ↓e_gcons, ↓e_gtup, ↓e_asg, ↓e_par, ↓e_parK, ↓e_par3, ↓e_par3K, ↓e_chain, ↓e_chK, ↓e_no, ↓e_some, ↓e_someK, ↓e_cut, ↓e_b, ↓e_iter, ↓e_iterL, ↓e_iterT, ↓e_iterS, ↓e_rng1, ↓e_rng1K, ↓e_rng2, ↓e_rng2K, ↓e_rng3, ↓e_rng3K, ↓e_enum, ↓e_enumL, ↓e_enumT, ↓e_zip, ↓e_zipL, ↓e_zipT, ↓e_zipM, ↓e_zipMK, ↓e_zipS, ↓e_zipSK, ↓e_for, ↓e_lc, ↓e_lcNew, ↓e_forN, ↓e_forC, ↓e_lcN, ↓e_lcC, ↓e_srcN, ↓e_srcC, ↓e_meth, ↓e_isL, ↓e_sub, ↓e_aug, ↓e_augK, ↓e_isi, ↓e_yes, ↓e_bits, ↓e_bitsK, ↓e_cLast, ↓e_cLink, ↓e_cK, ↓e_cNext, ↓e_testCh, ↓e_addI, ↓e_addB, ↓e_addS, ↓e_addT, ↓e_addL, ↓e_subI, ↓e_mulI, ↓e_mulT, ↓e_mulL, ↓e_divI, ↓e_modI, ↓e_powI, ↓e_negI, ↓e_iadd, ↓e_cmpI, ↓e_eq, ↓e_ne, ↓e_isn, ↓e_isnn, ↓e_isb, ↓e_ixL, ↓e_ixKL, ↓e_ixT, ↓e_cutL, ↓e_cutKL, ↓e_cutT, ↓e_lenL, ↓e_lenKL, ↓e_lenT, ↓e_abs, ↓e_intI, ↓e_intB, ↓e_max2, ↓e_min2, ↓e_listL, ↓e_listT, ↓e_listNL, ↓e_listNT, ↓e_tupL, ↓e_tupT, ↓e_sum1T, ↓e_sum1L, ↓e_max1T, ↓e_max1L, ↓e_drI, ↓e_drB, ↓e_drS, ↓e_drN, ↓e_drL, ↓e_drT, ↓e_seq, ↓e_back, ↓e_backL, ↓e_backT, ↓e_sortedL, ↓e_sortedNL, ↓e_divmod, ↓e_lr1, ↓e_lr1K, ↓e_lr2, ↓e_lr2K, ↓e_lr3, ↓e_lr3K, ↓e_revR1, ↓e_revR1K, ↓e_srtSet, ↓e_unlL, ↓e_inL, ↓e_inKL, ↓e_inT, ↓e_inFlat, ↓e_drK, ↓e_srtSetL, ↓e_lenSet, ↓e_lenSetL, ↓e_enumF, ↓e_enumFT, ↓e_reprL, ↓e_reprT, ↓e_reprI, ↓e_reprB, ↓e_reprN, ↓e_reprS, ↓e_strI, ↓e_isub, ↓e_strB, ↓e_addBI, ↓e_subBI, ↓e_subIB, ↓e_drG, ↓e_dnew, ↓e_dgetF, ↓e_dget1, ↓e_dget2, ↓e_dsetdS, ↓e_dgPut, ↓e_lenSetZ, ↓e_lenSetZL, e_kyI, e_kyS, Nat.reduceAdd, Nat.zero_add, List.length_cons, List.length_nil, List.length_map, Nat.reduceLeDiff, and_true, true_and, if_true, ite_true, decide_eq_true_eq, Bool.not_eq_true, Bool.false_eq_true, if_false, ite_false, ↓reduceIte, Int.reduceToNat, Int.reducePow, ne_eq, q_okI, q_okB, q_okN, q_okS, q_okL, q_okT, q_oks0, q_oks1, q_eqII, q_eqBB, q_eqSS, q_eqLL, q_eqTT, q_eqNN, q_eqNI, q_eqIN, q_eqs0, q_eqs1, Bool.true_and, Bool.and_true, beq_iff_eq, reduceCtorEq, wipeE, List.set_cons_zero, List.set_cons_succ, List.set_nil, Bool.not_true, Bool.not_false, List.getElem?_cons_zero, List.getElem?_cons_succ])
  refine ⟨mul2 _, h.toNat, rng_odd h1 (by omega), by rw [strip_rng h1, List.length_map, oddsR_length]; unfold spotR; dsimp only; omega, ?_⟩
  rw [strip_rng h1]
  refine lc_mapM D.int (spotI ws) pairD _ _ (by exact trivial) _ (fun x hx kd k => ?_) ?_
  · simp only [e1_strip]
    (try simp only [BEq.rfl, ↓e_v0, ↓e_vs, ↓e_c, ↓e_op, ↓e_un, ↓e_test, ↓e_testK, ↓e_tru, ↓e_truL, ↓e_truT, ↓e_truB, ↓e_truI, ↓e_truN, ↓e_truS, ↓e_not, ↓e_and, ↓e_or, ↓e_andv, ↓e_orv, ↓e_notv, ↓e_andK, ↓e_orK, ↓e_notK, ↓e_if, ↓e_nil, ↓e_cons, ↓e_tup, ↓e_lst, ↓e_new, ↓e_call, ↓e_callK, ↓e_drop, ↓e_ret, ↓e_retN, ↓e_pass, ↓e_ifS, ↓e_g0, ↓e_gs, ↓e_gnil, ↓e_gcons, ↓e_gtup, ↓e_asg, ↓e_par, ↓e_parK, ↓e_par3, ↓e_par3K, ↓e_chain, ↓e_chK, ↓e_no, ↓e_some, ↓e_someK, ↓e_cut, ↓e_b, ↓e_iter, ↓e_iterL, ↓e_iterT, ↓e_iterS, ↓e_rng1, ↓e_rng1K, ↓e_rng2, ↓e_rng2K, ↓e_rng3, ↓e_rng3K, ↓e_enum, ↓e_enumL, ↓e_enumT, ↓e_zip, ↓e_zipL, ↓e_zipT, ↓e_zipM, ↓e_zipMK, ↓e_zipS, ↓e_zipSK, ↓e_for, ↓e_lc, ↓e_lcNew, ↓e_forN, ↓e_forC, ↓e_lcN, ↓e_lcC, ↓e_srcN, ↓e_srcC, ↓e_meth, ↓e_isL, ↓e_sub, ↓e_aug, ↓e_augK, ↓e_isi, ↓e_yes, ↓e_bits, ↓e_bitsK, ↓e_cLast, ↓e_cLink, ↓e_cK, ↓e_cNext, ↓e_testCh, ↓e_addI, ↓e_addB, ↓e_addS, ↓e_addT, ↓e_addL, ↓e_subI, ↓e_mulI, ↓e_mulT, ↓e_mulL, ↓e_divI, ↓e_modI, ↓e_powI, ↓e_negI, ↓e_iadd, ↓e_cmpI, ↓e_eq, ↓e_ne, ↓e_isn, ↓e_isnn, ↓e_isb, ↓e_ixL, ↓e_ixKL, ↓e_ixT, ↓e_cutL, ↓e_cutKL, ↓e_cutT, ↓e_lenL, ↓e_lenKL, ↓e_lenT, ↓e_abs, ↓e_intI, ↓e_intB, ↓e_max2, ↓e_min2, ↓e_listL, ↓e_listT, ↓e_listNL, ↓e_listNT, ↓e_tupL, ↓e_tupT, ↓e_sum1T, ↓e_sum1L, ↓e_max1T, ↓e_max1L, ↓e_drI, ↓e_drB, ↓e_drS, ↓e_drN, ↓e_drL, ↓e_drT, ↓e_seq, ↓e_back, ↓e_backL, ↓e_backT, ↓e_sortedL, ↓e_sortedNL, ↓e_divmod, ↓e_lr1, ↓e_lr1K, ↓e_lr2, ↓e_lr2K, ↓e_lr3, ↓e_lr3K, ↓e_revR1, ↓e_revR1K, ↓e_srtSet, ↓e_unlL, ↓e_inL, ↓e_inKL, ↓e_inT, ↓e_inFlat, ↓e_drK, ↓e_srtSetL, ↓e_lenSet, ↓e_lenSetL, ↓e_enumF, ↓e_enumFT, ↓e_reprL, ↓e_reprT, ↓e_reprI, ↓e_reprB, ↓e_reprN, ↓e_reprS, ↓e_strI, ↓e_isub, ↓e_strB, ↓e_addBI, ↓e_subBI, ↓e_subIB, ↓e_drG, ↓e_dnew, ↓e_dgetF, ↓e_dget1, ↓e_dget2, ↓e_dsetdS, ↓e_dgPut, ↓e_lenSetZ, ↓e_lenSetZL, e_kyI, e_kyS, Nat.reduceAdd, Nat.zero_add, List.length_cons, List.length_nil, List.length_map, Nat.reduceLeDiff, and_true, true_and, if_true, ite_true, decide_eq_true_eq, Bool.not_eq_true, Bool.false_eq_true, if_false, ite_false, ↓reduceIte, Int.reduceToNat, Int.reducePow, ne_eq, q_okI, q_okB, q_okN, q_okS, q_okL, q_okT, q_oks0, q_oks1, q_eqII, q_eqBB, q_eqSS, q_eqLL, q_eqTT, q_eqNN, q_eqNI, q_eqIN, q_eqs0, q_eqs1, Bool.true_and, Bool.and_true, beq_iff_eq, reduceCtorEq, wipeE, List.set_cons_zero, List.set_cons_succ, List.set_nil, Bool.not_true, Bool.not_false, List.getElem?_cons_zero, List.getElem?_cons_succ])
    exact ⟨ws, x, rfl, k⟩
  rw [List.nil_append]
  exact q
theorem p_strip : BodyD true N_strip sp_strip t_strip := by
  rintro ds st kk ⟨ws, h, rfl, h1, h2, q⟩
  rw [st_strip]
  refine run_strip _ ws h st h1 h2 ?_
  refine .one (belows_pairs _ _) ?_
  simp only [sub, if_true]
  exact q
def b1_layers : DS :=
    (dDrop (dMeth mAppend (dSetd (dVar 2) (dVar 4) (dNew dNil)) (dCons (dOp addD (dOp mulD (dC (.int 2)) (dVar 3)) (dC (.int 1))) dNil)))
def e1_layers : DE :=
    (dTup (dCons (dVar 4) (dCons (dB bTuple (dCons (dOp getD (dVar 2) (dVar 4)) dNil)) dNil)))
def t_layers : DS :=
    (dSeq (dAsg (dNewD false) (dgName 2))
    (dSeq (dFor (dEnum (dCall sp_strip (dCons (dVar 0) (dCons (dVar 1) dNil)))) (dgTup 2 (dgCons (dgName 3) (dgCons (dgTup 2 (dgCons (dgName 4) (dgCons (dgName 5) dgNil))) dgNil))) (b1_layers))
    (dRet (dLcNew (dIter (dB bSortedD (dCons (dVar 2) dNil))) (dgName 4) dYes (e1_layers) [4]))))
theorem st_layers (a0 a1 : D) : startD N_layers [a0, a1] = [some a0, some a1, none, none, none, none] := rfl
def idxF (z : Int) : List Int → Nat → List Int
  | [], _ => []
  | x :: r, k => if x = z then (2 * (k : Int) + 1) :: idxF z r (k + 1) else idxF z r (k + 1)
theorem idxF_app (z : Int) : ∀ (P Q : List Int) (k : Nat), idxF z (P ++ Q) k = idxF z P k ++ idxF z Q (k + P.length)
  | [], Q, k => rfl
  | x :: r, Q, k => by
    have ih := idxF_app z r Q (k + 1)
    rw [List.cons_append, List.length_cons, show k + (r.length + 1) = k + 1 + r.length by omega]
    show (if x = z then (2 * (k : Int) + 1) :: idxF z (r ++ Q) (k + 1) else idxF z (r ++ Q) (k + 1)) = (if x = z then (2 * (k : Int) + 1) :: idxF z r (k + 1) else idxF z r (k + 1)) ++ _
    by_cases e : x = z
    · rw [if_pos e, if_pos e, ih]; rfl
    · rw [if_neg e, if_neg e]; exact ih
theorem idxF_len (z : Int) : ∀ (P : List Int) (k : Nat), (idxF z P k).length ≤ P.length
  | [], _ => Nat.le_refl _
  | x :: r, k => by
    have := idxF_len z r (k + 1)
    unfold idxF
    split
    · simp only [List.length_cons]; omega
    · simp only [List.length_cons]; omega
theorem idxF_nil {z : Int} : ∀ {P : List Int} {k : Nat}, z ∉ P → idxF z P k = []
  | [], _, _ => rfl
  | x :: r, k, h => by
    unfold idxF
    rw [if_neg (fun e => h (by rw [e]; exact List.mem_cons_self)), idxF_nil (fun e => h (List.mem_cons_of_mem _ e))]
def layI (L : List Int) (z : Int) : D := .tup [.int z, .tup ((idxF z L 0).map D.int)]
def layL (L : List Int) : List D := (setZ L).map (layI L)
def lastsL (ws : List Int) (h : Int) : List Int := (oddsR (1, 2 * h - 1)).map fun x => sz (flast x ws)
theorem belows_lay (n : Nat) (L : List Int) : ∀ xs : List Int, belows n (xs.map (layI L)) = true
  | [] => rfl
  | x :: r => by
    simp only [List.map_cons, belows, layI, below, belows_int, Bool.and_true, Bool.true_and]
    exact belows_lay n L r
theorem okDs_lay (n : Nat) (L : List Int) : ∀ xs : List Int, okDs (n + 2) (xs.map (layI L)) = true
  | [] => by simp only [List.map_nil, okDs]
  | x :: r => by
    simp only [List.map_cons, okDs, layI, okD, okDs_int, Bool.and_true, Bool.true_and]
    exact okDs_lay n L r
/-- behind the sizes P: the dict at n, its lists behind it -/
structure LayAt (n : Nat) (st0 : Sto) (P : List Int) (s : Sto) (ks : List (Int × Nat)) : Prop where
  pre : ∃ cells : Sto, s = st0 ++ [tabR D.int D.obj ks] ++ cells ∧ ∀ c ∈ cells, ∃ is : List Int, c = is.map D.int
  nd : (ks.map (·.1)).Nodup
  mem : ∀ z, z ∈ ks.map (·.1) ↔ z ∈ P
  inj : ∀ p ∈ ks, ∀ q ∈ ks, p.2 = q.2 → p.1 = q.1
  cell : ∀ z a, look ks z = some a → n < a ∧ s[a]? = some ((idxF z P 0).map D.int)
  low : ∀ p ∈ ks, p.2 < s.length
theorem lay_len {n : Nat} {st0 : Sto} {P : List Int} {s : Sto} {ks : List (Int × Nat)} (h : LayAt n st0 P s ks) : ks.length ≤ P.length := by
  have l : (ks.map (·.1)).length ≤ P.length := by
    exact List.Nodup.length_le_of_subset h.nd fun z hz => (h.mem z).mp hz
  rwa [List.length_map] at l
theorem e_sortedD {α : Type} {f : α → D} {st : Sto} {i : Nat} {ks : List (Int × α)} {k : DK} (h : st[i]? = some (tabR D.int f ks)) : bSortedD [.dic false i] st k = (ks.length < 64 ∧ k (.lst ((sortZ (ks.map (·.1))).map D.int)) st) := by
  have e : dicOf st (.dic false i) = some (false, tabR D.int f ks) := by simp [dicOf, h]
  unfold bSortedD
  simp only [e, intsD_tab, List.length_map]
theorem sort_keys {ks P : List Int} (nd : ks.Nodup) (mem : ∀ z, z ∈ ks ↔ z ∈ P) : sortZ ks = setZ P := by
  symm
  refine sortZ_of ?_ (sortZ_le _)
  refine (List.perm_ext_iff_of_nodup ?_ nd).mpr fun z => by rw [mem_setZ, mem]
  exact (sortZ_perm _).nodup_iff.mpr (nodup_eraseDups P)
theorem lay_dic {n : Nat} {st0 : Sto} {P : List Int} {s : Sto} {ks : List (Int × Nat)} (h : LayAt n st0 P s ks) (hn : n = st0.length) : s[n]? = some (tabR D.int D.obj ks) := by
  obtain ⟨cells, rfl, _⟩ := h.pre
  rw [List.append_assoc, List.getElem?_append_right (by omega), hn, Nat.sub_self]
  rfl
theorem lay_step {st0 : Sto} {P : List Int} {s : Sto} {ks : List (Int × Nat)} (h : LayAt st0.length st0 P s ks) (hp : P.length ≤ 1000) (z : Int) (k : DK)
    (hk : ∀ (d : D) (s' : Sto) (ks' : List (Int × Nat)), LayAt st0.length st0 (P ++ [z]) s' ks' → k d s') :
    setdD (.dic false st0.length) (.int z) (.obj s.length) (s ++ [[]]) fun d s1 => isLst s1 d = true ∧ DL.MulOk 2 (P.length : Int) ∧ mAppend d [.int (2 * (P.length : Int) + 1)] s1 k := by
  have hd := lay_dic h rfl
  have kl := lay_len h
  have l0 : st0.length < s.length := (List.getElem?_eq_some_iff.mp hd).1
  have hd' : (s ++ [[]])[st0.length]? = some (tabR D.int D.obj ks) := by rw [List.getElem?_append_left l0]; exact hd
  rw [e_dsetd hd', valR_tab keyI]
  refine ⟨rfl, by rw [tabR_length]; omega, ?_⟩
  obtain ⟨cells, hs, hc⟩ := h.pre
  cases hl : look ks z with
  | some a =>
    obtain ⟨h1, h2⟩ := h.cell z a hl
    have la : a < s.length := h.low _ (look_mem hl)
    have h2' : (s ++ [[]])[a]? = some ((idxF z P 0).map D.int) := by rw [List.getElem?_append_left la]; exact h2
    show isLst (s ++ [[]]) (.obj a) = true ∧ DL.MulOk 2 (P.length : Int) ∧ mAppend (.obj a) [.int (2 * (P.length : Int) + 1)] (s ++ [[]]) k
    rw [e_isO h2', e_app h2']
    have ll := idxF_len z P 0
    refine ⟨rfl, mul2 _, by rw [List.length_map]; omega, ?_⟩
    have ev : (idxF z P 0).map D.int ++ [D.int (2 * (P.length : Int) + 1)] = (idxF z (P ++ [z]) 0).map D.int := by
      rw [idxF_app, Nat.zero_add, List.map_append]
      simp [idxF]
    rw [ev]
    refine hk _ _ ks ⟨⟨(cells ++ [[]]).set (a - (st0.length + 1)) ((idxF z (P ++ [z]) 0).map D.int), ?_, fun c hcm => ?_⟩, h.nd, fun y => ?_, h.inj, fun y b hy => ?_, fun p hp => ?_⟩
    · rw [hs, List.append_assoc _ _ [[]], List.set_append_right _ _ (by simp; omega)]
      congr 2
      simp
    · rcases List.mem_or_eq_of_mem_set hcm with q | q
      · rcases List.mem_append.mp q with q | q
        · exact hc c q
        · rw [List.mem_singleton.mp q]; exact ⟨[], rfl⟩
      · exact ⟨_, q⟩
    · rw [h.mem, List.mem_append, List.mem_singleton]
      refine ⟨fun q => .inl q, fun q => q.elim id fun e => ?_⟩
      rw [e, ← h.mem]
      exact List.mem_map.mpr ⟨_, look_mem hl, rfl⟩
    · obtain ⟨h3, h4⟩ := h.cell y b hy
      refine ⟨h3, ?_⟩
      by_cases e : y = z
      · subst e
        rw [hl] at hy
        cases hy
        rw [List.getElem?_set_self (by rw [List.length_append]; simp; omega)]
      · have ne : a ≠ b := fun q => e (h.inj _ (look_mem hy) _ (look_mem hl) q.symm)
        rw [List.getElem?_set_ne ne, List.getElem?_append_left (h.low _ (look_mem hy)), h4, idxF_app]
        simp [idxF, Ne.symm e]
    · rw [List.length_set, List.length_append]
      have := h.low p hp
      omega
  | none =>
    show isLst _ (.obj s.length) = true ∧ DL.MulOk 2 (P.length : Int) ∧ mAppend (.obj s.length) [.int (2 * (P.length : Int) + 1)] _ k
    rw [putR_tab keyI, putL_new hl]
    have hz : z ∉ P := fun q => look_none.mp hl ((h.mem z).mpr q)
    have e1 : (s ++ [[]]).set st0.length (tabR D.int D.obj (ks ++ [(z, s.length)])) = st0 ++ [tabR D.int D.obj (ks ++ [(z, s.length)])] ++ cells ++ [[]] := by
      rw [hs]
      simp [List.set_append]
    have lc : s.length = (st0 ++ [tabR D.int D.obj (ks ++ [(z, s.length)])] ++ cells).length := by
      conv => lhs; rw [hs]
      simp
    rw [e1]
    have h2 : (st0 ++ [tabR D.int D.obj (ks ++ [(z, s.length)])] ++ cells ++ [[]])[s.length]? = some [] := by
      conv => lhs; rhs; rw [lc]
      rw [List.getElem?_concat_length]
    rw [e_isO h2, e_app h2]
    refine ⟨rfl, mul2 _, by simp, ?_⟩
    have e2 : (st0 ++ [tabR D.int D.obj (ks ++ [(z, s.length)])] ++ cells ++ [[]]).set s.length ([] ++ [D.int (2 * (P.length : Int) + 1)]) = st0 ++ [tabR D.int D.obj (ks ++ [(z, s.length)])] ++ (cells ++ [[D.int (2 * (P.length : Int) + 1)]]) := by
      conv => lhs; arg 2; rw [lc]
      rw [set_last, List.append_assoc]
      rfl
    rw [e2]
    have low2 : ∀ p ∈ ks, p.2 < s.length := h.low
    have old : ∀ b, st0.length < b → b < s.length → (st0 ++ [tabR D.int D.obj (ks ++ [(z, s.length)])] ++ (cells ++ [[D.int (2 * (P.length : Int) + 1)]]))[b]? = s[b]? := by
      intro b b1 b2
      have : b < st0.length + 1 + cells.length := by rw [hs] at b2; simp at b2; omega
      rw [← List.append_assoc, List.getElem?_append_left (by simp; omega), hs, List.getElem?_append_right (by simp; omega), List.getElem?_append_right (by simp; omega)]
      simp
    refine hk _ _ (ks ++ [(z, s.length)]) ⟨⟨_, rfl, fun c hcm => ?_⟩, ?_, fun y => ?_, fun p hp q hq e => ?_, fun y b hy => ?_, fun p hp => ?_⟩
    · rcases List.mem_append.mp hcm with q | q
      · exact hc c q
      · rw [List.mem_singleton.mp q]; exact ⟨[2 * (P.length : Int) + 1], rfl⟩
    · rw [List.map_append, List.nodup_append]
      refine ⟨h.nd, by simp, fun x hx y hy e => ?_⟩
      have : y = z := by simpa using hy
      rw [e, this] at hx
      exact hz ((h.mem z).mp hx)
    · rw [List.map_append, List.mem_append, h.mem, List.mem_append]
      simp
    · rcases List.mem_append.mp hp with hp | hp
      · rcases List.mem_append.mp hq with hq | hq
        · exact h.inj p hp q hq e
        · rw [List.mem_singleton.mp hq] at e
          have := low2 p hp
          simp only at e
          omega
      · rw [List.mem_singleton.mp hp] at e ⊢
        rcases List.mem_append.mp hq with hq | hq
        · have := low2 q hq
          simp only at e
          omega
        · rw [List.mem_singleton.mp hq]
    · rw [look_app] at hy
      cases hly : look ks y with
      | some b' =>
        rw [hly] at hy
        cases hy
        obtain ⟨h3, h4⟩ := h.cell y b hly
        have ne : ¬ y = z := fun e => by rw [e, hl] at hly; cases hly
        refine ⟨h3, ?_⟩
        rw [old b h3 (low2 _ (look_mem hly)), h4, idxF_app]
        simp [idxF, Ne.symm ne]
      | none =>
        rw [hly] at hy
        have hy2 : (if z = y then some s.length else none) = some b := hy
        by_cases e : z = y
        · rw [if_pos e] at hy2
          cases hy2
          refine ⟨l0, ?_⟩
          have : (st0 ++ [tabR D.int D.obj (ks ++ [(z, s.length)])] ++ (cells ++ [[D.int (2 * (P.length : Int) + 1)]]))[s.length]? = some [D.int (2 * (P.length : Int) + 1)] := by
            rw [← List.append_assoc]
            conv => lhs; rhs; rw [lc]
            rw [List.getElem?_concat_length]
          rw [this, ← e, idxF_app, idxF_nil hz]
          simp [idxF]
        · rw [if_neg e] at hy2
          cases hy2
    · have l3 : (st0 ++ [tabR D.int D.obj (ks ++ [(z, s.length)])] ++ (cells ++ [[D.int (2 * (P.length : Int) + 1)]])).length = s.length + 1 := by
        rw [hs]; simp; omega
      rw [l3]
      rcases List.mem_append.mp hp with hp | hp
      · have := low2 p hp; omega
      · rw [List.mem_singleton.mp hp]; simp
theorem run_layers (D0 : DEnds) (ws : List Int) (h : Int) (st : Sto) (h1 : 1 ≤ h) (h2 : h ≤ 60)
    (q : ∀ (ks : List (Int × Nat)) (cells : Sto), (∀ c ∈ cells, ∃ is : List Int, c = is.map D.int) → (∀ p ∈ ks, st.length < p.2 ∧ p.2 < st.length + 1 + cells.length) → D0.rt (.obj (st ++ [tabR D.int D.obj ks] ++ cells).length) (st ++ [tabR D.int D.obj ks] ++ cells ++ [layL (lastsL ws h)])) : t_layers D0 [some (.tup (ws.map D.int)), some (.int h), none, none, none, none] st := by
  simp only [t_layers]
  (try simp only [BEq.rfl, ↓e_v0, ↓e_vs, ↓e_c, ↓e_op, ↓e_un, ↓e_test, ↓e_testK, ↓e_tru, ↓e_truL, ↓e_truT, ↓e_truB, ↓e_truI, ↓e_truN, ↓e_truS, ↓e_not, ↓e_and, ↓e_or, ↓e_andv, ↓e_orv, ↓e_notv, ↓e_andK, ↓e_orK, ↓e_notK, ↓e_if, ↓e_nil, ↓e_cons, ↓e_tup, ↓e_lst, ↓e_new, ↓e_call, ↓e_callK, ↓e_drop, ↓e_ret, ↓e_retN, ↓e_pass, ↓e_ifS, ↓e_g0, ↓e_gs, ↓e_gnil, ↓e_gcons, ↓e_gtup, ↓e_asg, ↓e_par, ↓e_parK, ↓e_par3, ↓e_par3K, ↓e_chain, ↓e_chK, ↓e_no, ↓e_some, ↓e_someK, ↓e_cut, ↓e_b, ↓e_iter, ↓e_iterL, ↓e_iterT, ↓e_iterS, ↓e_rng1, ↓e_rng1K, ↓e_rng2, ↓e_rng2K, ↓e_rng3, ↓e_rng3K, ↓e_enum, ↓e_enumL, ↓e_enumT, ↓e_zip, ↓e_zipL, ↓e_zipT, ↓e_zipM, ↓e_zipMK, ↓e_zipS, ↓e_zipSK, ↓e_for, ↓e_lc, ↓e_lcNew, ↓e_forN, ↓e_forC, ↓e_lcN, ↓e_lcC, ↓e_srcN, ↓e_srcC, ↓e_meth, ↓e_isL, ↓e_sub, ↓e_aug, ↓e_augK, ↓e_isi, ↓e_yes, ↓e_bits, ↓e_bitsK, ↓e_cLast, ↓e_cLink, ↓e_cK, ↓e_cNext, ↓e_testCh, ↓e_addI, ↓e_addB, ↓e_addS, ↓e_addT, ↓e_addL, ↓e_subI, ↓e_mulI, ↓e_mulT, ↓e_mulL, ↓e_divI, ↓e_modI, ↓e_powI, ↓e_negI, ↓e_iadd, ↓e_cmpI, ↓e_eq, ↓e_ne, ↓e_isn, ↓e_isnn, ↓e_isb, ↓e_ixL, ↓e_ixKL, ↓e_ixT, ↓e_cutL, ↓e_cutKL, ↓e_cutT, ↓e_lenL, ↓e_lenKL, ↓e_lenT, ↓e_abs, ↓e_intI, ↓e_intB, ↓e_max2, ↓e_min2, ↓e_listL, ↓e_listT, ↓e_listNL, ↓e_listNT, ↓e_tupL, ↓e_tupT, ↓e_sum1T, ↓e_sum1L, ↓e_max1T, ↓e_max1L, ↓e_drI, ↓e_drB, ↓e_drS, ↓e_drN, ↓e_drL, ↓e_drT, ↓e_seq, ↓e_back, ↓e_backL, ↓e_backT, ↓e_sortedL, ↓e_sortedNL, ↓e_divmod, ↓e_lr1, ↓e_lr1K, ↓e_lr2, ↓e_lr2K, ↓e_lr3, ↓e_lr3K, ↓e_revR1, ↓e_revR1K, ↓e_srtSet, ↓e_unlL, ↓e_inL, ↓e_inKL, ↓e_inT, ↓e_inFlat, ↓e_drK, ↓e_srtSetL, ↓e_lenSet, ↓e_lenSetL, ↓e_enumF, ↓e_enumFT, ↓e_reprL, ↓e_reprT, ↓e_reprI, ↓e_reprB, ↓e_reprN, ↓e_reprS, ↓e_strI, ↓e_isub, ↓e_strB, ↓e_addBI, ↓e_subBI, ↓e_subIB, ↓e_drG, ↓e_dnew, ↓e_dgetF, ↓e_dget1, ↓e_dget2, ↓e_dsetdS, ↓e_dgPut, ↓e_lenSetZ, ↓e_lenSetZL, e_kyI, e_kyS, Nat.reduceAdd, Nat.zero_add, List.length_cons, List.length_nil, List.length_map, Nat.reduceLeDiff, and_true, true_and, if_true, ite_true, decide_eq_true_eq, Bool.not_eq_true, Bool.false_eq_true, if_false, ite_false, ↓reduceIte, Int.reduceToNat, Int.reducePow, ne_eq, q_okI, q_okB, q_okN, q_okS, q_okL, q_okT, q_oks0, q_oks1, q_eqII, q_eqBB, q_eqSS, q_eqLL, q_eqTT, q_eqNN, q_eqNI, q_eqIN, q_eqs0, q_eqs1, Bool.true_and, Bool.and_true, beq_iff_eq, reduceCtorEq, wipeE, List.set_cons_zero, List.set_cons_succ, List.set_nil, Bool.not_true, Bool.not_false, List.getElem?_cons_zero, List.getElem?_cons_succ])
  refine ⟨ws, h, rfl, h1, by omega, ?_⟩
  have hl : (stripL ws h).length ≤ 60 := by rw [stripL_len ws h1]; omega
  simp only [stripD, e_enumL]
  intro _
  have eL : lastsL ws h = ((oddsR (1, 2 * h - 1)).map (spotI ws)).map (·.1) := by unfold lastsL; rw [List.map_map]; rfl
  rw [eL] at q
  have lps : ((oddsR (1, 2 * h - 1)).map (spotI ws)).length ≤ 60 := by rw [stripL, List.length_map] at hl; exact hl
  unfold stripL
  generalize (oddsR (1, 2 * h - 1)).map (spotI ws) = ps at q lps ⊢
  refine go_forD (fun us env s => ∃ (pre tl : List (Int × Bool)) (ks : List (Int × Nat)) (v3 v4 v5 : Option D), pre ++ tl = ps ∧ us = enumD pre.length (tl.map pairD) ∧ LayAt st.length st (pre.map (·.1)) s ks ∧ env = [some (.tup (ws.map D.int)), some (.int h), some (.dic false st.length), v3, v4, v5]) ?_ ?_ _ _ _ ⟨[], ps, [], none, none, none, rfl, rfl, ⟨⟨[], by simp [tabR], fun c hc => (by cases hc)⟩, List.nodup_nil, fun z => Iff.rfl, fun p hp => (by cases hp), fun z a h => (by cases h), fun p hp => (by cases hp)⟩, rfl⟩
  · rintro x us _ s nx ⟨pre, tl, ks, v3, v4, v5, hps, hu, L, rfl⟩ q2
    refine ⟨trivial, ?_⟩
    cases tl with
    | nil => cases hu
    | cons p tl =>
      simp only [List.map_cons, enumD, List.cons.injEq] at hu
      obtain ⟨rfl, hu⟩ := hu
      have lp : pre.length ≤ 60 := by rw [← hps, List.length_append] at lps; omega
      simp only [pairD]
      (try simp only [BEq.rfl, ↓e_v0, ↓e_vs, ↓e_c, ↓e_op, ↓e_un, ↓e_test, ↓e_testK, ↓e_tru, ↓e_truL, ↓e_truT, ↓e_truB, ↓e_truI, ↓e_truN, ↓e_truS, ↓e_not, ↓e_and, ↓e_or, ↓e_andv, ↓e_orv, ↓e_notv, ↓e_andK, ↓e_orK, ↓e_notK, ↓e_if, ↓e_nil, ↓e_cons, ↓e_tup, ↓e_lst, ↓e_new, ↓e_call, ↓e_callK, ↓e_drop, ↓e_ret, ↓e_retN, ↓e_pass, ↓e_ifS, ↓e_g0, ↓e_gs, ↓e_gnil, ↓e_gcons, ↓e_gtup, ↓e_asg, ↓e_par, ↓e_parK, ↓e_par3, ↓e_par3K, ↓e_chain, ↓e_chK, ↓e_no, ↓e_some, ↓e_someK, ↓e_cut, ↓e_b, ↓e_iter, ↓e_iterL, ↓e_iterT, ↓e_iterS, ↓e_rng1, ↓e_rng1K, ↓e_rng2, ↓e_rng2K, ↓e_rng3, ↓e_rng3K, ↓e_enum, ↓e_enumL, ↓e_enumT, ↓e_zip, ↓e_zipL, ↓e_zipT, ↓e_zipM, ↓e_zipMK, ↓e_zipS, ↓e_zipSK, ↓e_for, ↓e_lc, ↓e_lcNew, ↓e_forN, ↓e_forC, ↓e_lcN, ↓e_lcC, ↓e_srcN, ↓e_srcC, ↓e_meth, ↓e_isL, ↓e_sub, ↓e_aug, ↓e_augK, ↓e_isi, ↓e_yes, ↓e_bits, ↓e_bitsK, ↓e_cLast, ↓e_cLink, ↓e_cK, ↓e_cNext, ↓e_testCh, ↓e_addI, ↓e_addB, ↓e_addS, ↓e_addT, ↓e_addL, ↓e_subI, ↓e_mulI, ↓e_mulT, ↓e_mulL, ↓e_divI, ↓e_modI, ↓e_powI, ↓e_negI, ↓e_iadd, ↓e_cmpI, ↓e_eq, ↓e_ne, ↓e_isn, ↓e_isnn, ↓e_isb, ↓e_ixL, ↓e_ixKL, ↓e_ixT, ↓e_cutL, ↓e_cutKL, ↓e_cutT, ↓e_lenL, ↓e_lenKL, ↓e_lenT, ↓e_abs, ↓e_intI, ↓e_intB, ↓e_max2, ↓e_min2, ↓e_listL, ↓e_listT, ↓e_listNL, ↓e_listNT, ↓e_tupL, ↓e_tupT, ↓e_sum1T, ↓e_sum1L, ↓e_max1T, ↓e_max1L, ↓e_drI, ↓e_drB, ↓e_drS, ↓e_drN, ↓e_drL, ↓e_drT, ↓e_seq, ↓e_back, ↓e_backL, ↓e_backT, ↓e_sortedL, ↓e_sortedNL, ↓e_divmod, ↓e_lr1, ↓e_lr1K, ↓e_lr2, ↓e_lr2K, ↓e_lr3, ↓e_lr3K, ↓e_revR1, ↓e_revR1K, ↓e_srtSet, ↓e_unlL, ↓e_inL, ↓e_inKL, ↓e_inT, ↓e_inFlat, ↓e_drK, ↓e_srtSetL, ↓e_lenSet, ↓e_lenSetL, ↓e_enumF, ↓e_enumFT, ↓e_reprL, ↓e_reprT, ↓e_reprI, ↓e_reprB, ↓e_reprN, ↓e_reprS, ↓e_strI, ↓e_isub, ↓e_strB, ↓e_addBI, ↓e_subBI, ↓e_subIB, ↓e_drG, ↓e_dnew, ↓e_dgetF, ↓e_dget1, ↓e_dget2, ↓e_dsetdS, ↓e_dgPut, ↓e_lenSetZ, ↓e_lenSetZL, e_kyI, e_kyS, Nat.reduceAdd, Nat.zero_add, List.length_cons, List.length_nil, List.length_map, Nat.reduceLeDiff, and_true, true_and, if_true, ite_true, decide_eq_true_eq, Bool.not_eq_true, Bool.false_eq_true, if_false, ite_false, ↓reduceIte, Int.reduceToNat, Int.reducePow, ne_eq, q_okI, q_okB, q_okN, q_okS, q_okL, q_okT, q_oks0, q_oks1, q_eqII, q_eqBB, q_eqSS, q_eqLL, q_eqTT, q_eqNN, q_eqNI, q_eqIN, q_eqs0, q_eqs1, Bool.true_and, Bool.and_true, beq_iff_eq, reduceCtorEq, wipeE, List.set_cons_zero, List.set_cons_succ, List.set_nil, Bool.not_true, Bool.not_false, List.getElem?_cons_zero, List.getElem?_cons_succ])
      simp only [b1_layers]
      (try simp only [BEq.rfl, ↓e_v0, ↓e_vs, ↓e_c, ↓e_op, ↓e_un, ↓e_test, ↓e_testK, ↓e_tru, ↓e_truL, ↓e_truT, ↓e_truB, ↓e_truI, ↓e_truN, ↓e_truS, ↓e_not, ↓e_and, ↓e_or, ↓e_andv, ↓e_orv, ↓e_notv, ↓e_andK, ↓e_orK, ↓e_notK, ↓e_if, ↓e_nil, ↓e_cons, ↓e_tup, ↓e_lst, ↓e_new, ↓e_call, ↓e_callK, ↓e_drop, ↓e_ret, ↓e_retN, ↓e_pass, ↓e_ifS, ↓e_g0, ↓e_gs, ↓e_gnil, ↓e_gcons, ↓e_gtup, ↓e_asg, ↓e_par, ↓e_parK, ↓e_par3, ↓e_par3K, ↓e_chain, ↓e_chK, ↓e_no, ↓e_some, ↓e_someK, ↓e_cut, ↓e_b, ↓e_iter, ↓e_iterL, ↓e_iterT, ↓e_iterS, ↓e_rng1, ↓e_rng1K, ↓e_rng2, ↓e_rng2K, ↓e_rng3, ↓e_rng3K, ↓e_enum, ↓e_enumL, ↓e_enumT, ↓e_zip, ↓e_zipL, ↓e_zipT, ↓e_zipM, ↓e_zipMK, ↓e_zipS, ↓e_zipSK, ↓e_for, ↓e_lc, ↓e_lcNew, ↓e_forN, ↓e_forC, ↓e_lcN, ↓e_lcC, ↓e_srcN, ↓e_srcC, ↓e_meth, ↓e_isL, ↓e_sub, ↓e_aug, ↓e_augK, ↓e_isi, ↓e_yes, ↓e_bits, ↓e_bitsK, ↓e_cLast, ↓e_cLink, ↓e_cK, ↓e_cNext, ↓e_testCh, ↓e_addI, ↓e_addB, ↓e_addS, ↓e_addT, ↓e_addL, ↓e_subI, ↓e_mulI, ↓e_mulT, ↓e_mulL, ↓e_divI, ↓e_modI, ↓e_powI, ↓e_negI, ↓e_iadd, ↓e_cmpI, ↓e_eq, ↓e_ne, ↓e_isn, ↓e_isnn, ↓e_isb, ↓e_ixL, ↓e_ixKL, ↓e_ixT, ↓e_cutL, ↓e_cutKL, ↓e_cutT, ↓e_lenL, ↓e_lenKL, ↓e_lenT, ↓e_abs, ↓e_intI, ↓e_intB, ↓e_max2, ↓e_min2, ↓e_listL, ↓e_listT, ↓e_listNL, ↓e_listNT, ↓e_tupL, ↓e_tupT, ↓e_sum1T, ↓e_sum1L, ↓e_max1T, ↓e_max1L, ↓e_drI, ↓e_drB, ↓e_drS, ↓e_drN, ↓e_drL, ↓e_drT, ↓e_seq, ↓e_back, ↓e_backL, ↓e_backT, ↓e_sortedL, ↓e_sortedNL, ↓e_divmod, ↓e_lr1, ↓e_lr1K, ↓e_lr2, ↓e_lr2K, ↓e_lr3, ↓e_lr3K, ↓e_revR1, ↓e_revR1K, ↓e_srtSet, ↓e_unlL, ↓e_inL, ↓e_inKL, ↓e_inT, ↓e_inFlat, ↓e_drK, ↓e_srtSetL, ↓e_lenSet, ↓e_lenSetL, ↓e_enumF, ↓e_enumFT, ↓e_reprL, ↓e_reprT, ↓e_reprI, ↓e_reprB, ↓e_reprN, ↓e_reprS, ↓e_strI, ↓e_isub, ↓e_strB, ↓e_addBI, ↓e_subBI, ↓e_subIB, ↓e_drG, ↓e_dnew, ↓e_dgetF, ↓e_dget1, ↓e_dget2, ↓e_dsetdS, ↓e_dgPut, ↓e_lenSetZ, ↓e_lenSetZL, e_kyI, e_kyS, Nat.reduceAdd, Nat.zero_add, List.length_cons, List.length_nil, List.length_map, Nat.reduceLeDiff, and_true, true_and, if_true, ite_true, decide_eq_true_eq, Bool.not_eq_true, Bool.false_eq_true, if_false, ite_false, ↓reduceIte, Int.reduceToNat, Int.reducePow, ne_eq, q_okI, q_okB, q_okN, q_okS, q_okL, q_okT, q_oks0, q_oks1, q_eqII, q_eqBB, q_eqSS, q_eqLL, q_eqTT, q_eqNN, q_eqNI, q_eqIN, q_eqs0, q_eqs1, Bool.true_and, Bool.and_true, beq_iff_eq, reduceCtorEq, wipeE, List.set_cons_zero, List.set_cons_succ, List.set_nil, Bool.not_true, Bool.not_false, List.getElem?_cons_zero, List.getElem?_cons_succ])
      refine ⟨by simp [dicOf, lay_dic L rfl], ?_⟩
      (try simp only [BEq.rfl, ↓e_v0, ↓e_vs, ↓e_c, ↓e_op, ↓e_un, ↓e_test, ↓e_testK, ↓e_tru, ↓e_truL, ↓e_truT, ↓e_truB, ↓e_truI, ↓e_truN, ↓e_truS, ↓e_not, ↓e_and, ↓e_or, ↓e_andv, ↓e_orv, ↓e_notv, ↓e_andK, ↓e_orK, ↓e_notK, ↓e_if, ↓e_nil, ↓e_cons, ↓e_tup, ↓e_lst, ↓e_new, ↓e_call, ↓e_callK, ↓e_drop, ↓e_ret, ↓e_retN, ↓e_pass, ↓e_ifS, ↓e_g0, ↓e_gs, ↓e_gnil, ↓e_gcons, ↓e_gtup, ↓e_asg, ↓e_par, ↓e_parK, ↓e_par3, ↓e_par3K, ↓e_chain, ↓e_chK, ↓e_no, ↓e_some, ↓e_someK, ↓e_cut, ↓e_b, ↓e_iter, ↓e_iterL, ↓e_iterT, ↓e_iterS, ↓e_rng1, ↓e_rng1K, ↓e_rng2, ↓e_rng2K, ↓e_rng3, ↓e_rng3K, ↓e_enum, ↓e_enumL, ↓e_enumT, ↓e_zip, ↓e_zipL, ↓e_zipT, ↓e_zipM, ↓e_zipMK, ↓e_zipS, ↓e_zipSK, ↓e_for, ↓e_lc, ↓e_lcNew, ↓e_forN, ↓e_forC, ↓e_lcN, ↓e_lcC, ↓e_srcN, ↓e_srcC, ↓e_meth, ↓e_isL, ↓e_sub, ↓e_aug, ↓e_augK, ↓e_isi, ↓e_yes, ↓e_bits, ↓e_bitsK, ↓e_cLast, ↓e_cLink, ↓e_cK, ↓e_cNext, ↓e_testCh, ↓e_addI, ↓e_addB, ↓e_addS, ↓e_addT, ↓e_addL, ↓e_subI, ↓e_mulI, ↓e_mulT, ↓e_mulL, ↓e_divI, ↓e_modI, ↓e_powI, ↓e_negI, ↓e_iadd, ↓e_cmpI, ↓e_eq, ↓e_ne, ↓e_isn, ↓e_isnn, ↓e_isb, ↓e_ixL, ↓e_ixKL, ↓e_ixT, ↓e_cutL, ↓e_cutKL, ↓e_cutT, ↓e_lenL, ↓e_lenKL, ↓e_lenT, ↓e_abs, ↓e_intI, ↓e_intB, ↓e_max2, ↓e_min2, ↓e_listL, ↓e_listT, ↓e_listNL, ↓e_listNT, ↓e_tupL, ↓e_tupT, ↓e_sum1T, ↓e_sum1L, ↓e_max1T, ↓e_max1L, ↓e_drI, ↓e_drB, ↓e_drS, ↓e_drN, ↓e_drL, ↓e_drT, ↓e_seq, ↓e_back, ↓e_backL, ↓e_backT, ↓e_sortedL, ↓e_sortedNL, ↓e_divmod, ↓e_lr1, ↓e_lr1K, ↓e_lr2, ↓e_lr2K, ↓e_lr3, ↓e_lr3K, ↓e_revR1, ↓e_revR1K, ↓e_srtSet, ↓e_unlL, ↓e_inL, ↓e_inKL, ↓e_inT, ↓e_inFlat, ↓e_drK, ↓e_srtSetL, ↓e_lenSet, ↓e_lenSetL, ↓e_enumF, ↓e_enumFT, ↓e_reprL, ↓e_reprT, ↓e_reprI, ↓e_reprB, ↓e_reprN, ↓e_reprS, ↓e_strI, ↓e_isub, ↓e_strB, ↓e_addBI, ↓e_subBI, ↓e_subIB, ↓e_drG, ↓e_dnew, ↓e_dgetF, ↓e_dget1, ↓e_dget2, ↓e_dsetdS, ↓e_dgPut, ↓e_lenSetZ, ↓e_lenSetZL, e_kyI, e_kyS, Nat.reduceAdd, Nat.zero_add, List.length_cons, List.length_nil, List.length_map, Nat.reduceLeDiff, and_true, true_and, if_true, ite_true, decide_eq_true_eq, Bool.not_eq_true, Bool.false_eq_true, if_false, ite_false, ↓reduceIte, Int.reduceToNat, Int.reducePow, ne_eq, q_okI, q_okB, q_okN, q_okS, q_okL, q_okT, q_oks0, q_oks1, q_eqII, q_eqBB, q_eqSS, q_eqLL, q_eqTT, q_eqNN, q_eqNI, q_eqIN, q_eqs0, q_eqs1, Bool.true_and, Bool.and_true, beq_iff_eq, reduceCtorEq, wipeE, List.set_cons_zero, List.set_cons_succ, List.set_nil, Bool.not_true, Bool.not_false, List.getElem?_cons_zero, List.getElem?_cons_succ])
      have := lay_step L (by rw [List.length_map]; omega) p.1 (fun _ s' => nx [some (.tup (ws.map D.int)), some (.int h), some (.dic false st.length), some (.int (pre.length : Nat)), some (.int p.1), some (.bl p.2)] s') fun d s' ks' L' => q2 _ _ ⟨pre ++ [p], tl, ks', _, _, _, by rw [List.append_assoc]; exact hps, by rw [List.length_append]; exact hu, by rw [List.map_append]; exact L', rfl⟩
      rw [List.length_map] at this
      exact this
  · rintro _ s ⟨pre, tl, ks, v3, v4, v5, hps, hu, L, rfl⟩
    refine ⟨trivial, ?_⟩
    cases tl with
    | cons p tl => cases hu
    | nil =>
      rw [List.append_nil] at hps
      subst hps
      have hd := lay_dic L rfl
      have kl := lay_len L
      rw [List.length_map] at kl
      (try simp only [BEq.rfl, ↓e_v0, ↓e_vs, ↓e_c, ↓e_op, ↓e_un, ↓e_test, ↓e_testK, ↓e_tru, ↓e_truL, ↓e_truT, ↓e_truB, ↓e_truI, ↓e_truN, ↓e_truS, ↓e_not, ↓e_and, ↓e_or, ↓e_andv, ↓e_orv, ↓e_notv, ↓e_andK, ↓e_orK, ↓e_notK, ↓e_if, ↓e_nil, ↓e_cons, ↓e_tup, ↓e_lst, ↓e_new, ↓e_call, ↓e_callK, ↓e_drop, ↓e_ret, ↓e_retN, ↓e_pass, ↓e_ifS, ↓e_g0, ↓e_gs, ↓e_gnil, ↓e_gcons, ↓e_gtup, ↓e_asg, ↓e_par, ↓e_parK, ↓e_par3, ↓e_par3K, ↓e_chain, ↓e_chK, ↓e_no, ↓e_some, ↓e_someK, ↓e_cut, ↓e_b, ↓e_iter, ↓e_iterL, ↓e_iterT, ↓e_iterS, ↓e_rng1, ↓e_rng1K, ↓e_rng2, ↓e_rng2K, ↓e_rng3, ↓e_rng3K, ↓e_enum, ↓e_enumL, ↓e_enumT, ↓e_zip, ↓e_zipL, ↓e_zipT, ↓e_zipM, ↓e_zipMK, ↓e_zipS, ↓e_zipSK, ↓e_for, ↓e_lc, ↓e_lcNew, ↓e_forN, ↓e_forC, ↓e_lcN, ↓e_lcC, ↓e_srcN, ↓e_srcC, ↓e_meth, ↓e_isL, ↓e_sub, ↓e_aug, ↓e_augK, ↓e_isi, ↓e_yes, ↓e_bits, ↓e_bitsK, ↓e_cLast, ↓e_cLink, ↓e_cK, ↓e_cNext, ↓e_testCh, ↓e_addI, ↓e_addB, ↓e_addS, ↓e_addT, ↓e_addL, ↓e_subI, ↓e_mulI, ↓e_mulT, ↓e_mulL, ↓e_divI, ↓e_modI, ↓e_powI, ↓e_negI, ↓e_iadd, ↓e_cmpI, ↓e_eq, ↓e_ne, ↓e_isn, ↓e_isnn, ↓e_isb, ↓e_ixL, ↓e_ixKL, ↓e_ixT, ↓e_cutL, ↓e_cutKL, ↓e_cutT, ↓e_lenL, ↓e_lenKL, ↓e_lenT, ↓e_abs, ↓e_intI, ↓e_intB, ↓e_max2, ↓e_min2, ↓e_listL, ↓e_listT, ↓e_listNL, ↓e_listNT, ↓e_tupL, ↓e_tupT, ↓e_sum1T, ↓e_sum1L, ↓e_max1T, ↓e_max1L, ↓e_drI, ↓e_drB, ↓e_drS, ↓e_drN, ↓e_drL, ↓e_drT, ↓e_seq, ↓e_back, ↓e_backL, ↓e_backT, ↓e_sortedL, ↓e_sortedNL, ↓e_divmod, ↓e_lr1, ↓e_lr1K, ↓e_lr2, ↓e_lr2K, ↓e_lr3, ↓e_lr3K, ↓e_revR1, ↓e_revR1K, ↓e_srtSet, ↓e_unlL, ↓e_inL, ↓e_inKL, ↓e_inT, ↓e_inFlat, ↓e_drK, ↓e_srtSetL, ↓e_lenSet, ↓e_lenSetL, ↓e_enumF, ↓e_enumFT, ↓e_reprL, ↓e_reprT, ↓e_reprI, ↓e_reprB, ↓e_reprN, ↓e_reprS, ↓e_strI, ↓e_isub, ↓e_strB, ↓e_addBI, ↓e_subBI, ↓e_subIB, ↓e_drG, ↓e_dnew, ↓e_dgetF, ↓e_dget1, ↓e_dget2, ↓e_dsetdS, ↓e_dgPut, ↓e_lenSetZ, ↓e_lenSetZL, e_kyI, e_kyS, Nat.reduceAdd, Nat.zero_add, List.length_cons, List.length_nil, List.length_map, Nat.reduceLeDiff, and_true, true_and, if_true, ite_true, decide_eq_true_eq, Bool.not_eq_true, Bool.false_eq_true, if_false, ite_false, ↓reduceIte, Int.reduceToNat, Int.reducePow, ne_eq, q_okI, q_okB, q_okN, q_okS, q_okL, q_okT, q_oks0, q_oks1, q_eqII, q_eqBB, q_eqSS, q_eqLL, q_eqTT, q_eqNN, q_eqNI, q_eqIN, q_eqs0, q_eqs1, Bool.true_and, Bool.and_true, beq_iff_eq, reduceCtorEq, wipeE, List.set_cons_zero, List.set_cons_succ, List.set_nil, Bool.not_true, Bool.not_false, List.getElem?_cons_zero, List.getElem?_cons_succ])
      rw [e_sortedD hd]
      refine ⟨by omega, ?_⟩
      rw [sort_keys L.nd L.mem]
      (try simp only [BEq.rfl, ↓e_v0, ↓e_vs, ↓e_c, ↓e_op, ↓e_un, ↓e_test, ↓e_testK, ↓e_tru, ↓e_truL, ↓e_truT, ↓e_truB, ↓e_truI, ↓e_truN, ↓e_truS, ↓e_not, ↓e_and, ↓e_or, ↓e_andv, ↓e_orv, ↓e_notv, ↓e_andK, ↓e_orK, ↓e_notK, ↓e_if, ↓e_nil, ↓e_cons, ↓e_tup, ↓e_lst, ↓e_new, ↓e_call, ↓e_callK, ↓e_drop, ↓e_ret, ↓e_retN, ↓e_pass, ↓e_ifS, ↓e_g0, ↓e_gs, ↓e_gnil, ↓e_gcons, ↓e_gtup, ↓e_asg, ↓e_par, ↓e_parK, ↓e_par3, ↓e_par3K, ↓e_chain, ↓e_chK, ↓e_no, ↓e_some, ↓e_someK, ↓e_cut, ↓e_b, ↓e_iter, ↓e_iterL, ↓e_iterT, ↓e_iterS, ↓e_rng1, ↓e_rng1K, ↓e_rng2, ↓e_rng2K, ↓e_rng3, ↓e_rng3K, ↓e_enum, ↓e_enumL, ↓e_enumT, ↓e_zip, ↓e_zipL, ↓e_zipT, ↓e_zipM, ↓e_zipMK, ↓e_zipS, ↓e_zipSK, ↓e_for, ↓e_lc, ↓e_lcNew, ↓e_forN, ↓e_forC, ↓e_lcN, ↓e_lcC, ↓e_srcN, ↓e_srcC, ↓e_meth, ↓e_isL, ↓e_sub, ↓e_aug, ↓e_augK, ↓e_isi, ↓e_yes, ↓e_bits, ↓e_bitsK, ↓e_cLast, ↓e_cLink, ↓e_cK, ↓e_cNext, ↓e_testCh, ↓e_addI, ↓e_addB, ↓e_addS, ↓e_addT, ↓e_addL, ↓e_subI, ↓e_mulI, ↓e_mulT, ↓e_mulL, ↓e_divI, ↓e_modI, ↓e_powI, ↓e_negI, ↓e_iadd, ↓e_cmpI, ↓e_eq, ↓e_ne, ↓e_isn, ↓e_isnn, ↓e_isb, ↓e_ixL, ↓e_ixKL, ↓e_ixT, ↓e_cutL, ↓e_cutKL, ↓e_cutT, ↓e_lenL, ↓e_lenKL, ↓e_lenT, ↓e_abs, ↓e_intI, ↓e_intB, ↓e_max2, ↓e_min2, ↓e_listL, ↓e_listT, ↓e_listNL, ↓e_listNT, ↓e_tupL, ↓e_tupT, ↓e_sum1T, ↓e_sum1L, ↓e_max1T, ↓e_max1L, ↓e_drI, ↓e_drB, ↓e_drS, ↓e_drN, ↓e_drL, ↓e_drT, ↓e_seq, ↓e_back, ↓e_backL, ↓e_backT, ↓e_sortedL, ↓e_sortedNL, ↓e_divmod, ↓e_lr1, ↓e_lr1K, ↓e_lr2, ↓e_lr2K, ↓e_lr3, ↓e_lr3K, ↓e_revR1, ↓e_revR1K, ↓e_srtSet, ↓e_unlL, ↓e_inL, ↓e_inKL, ↓e_inT, ↓e_inFlat, ↓e_drK, ↓e_srtSetL, ↓e_lenSet, ↓e_lenSetL, ↓e_enumF, ↓e_enumFT, ↓e_reprL, ↓e_reprT, ↓e_reprI, ↓e_reprB, ↓e_reprN, ↓e_reprS, ↓e_strI, ↓e_isub, ↓e_strB, ↓e_addBI, ↓e_subBI, ↓e_subIB, ↓e_drG, ↓e_dnew, ↓e_dgetF, ↓e_dget1, ↓e_dget2, ↓e_dsetdS, ↓e_dgPut, ↓e_lenSetZ, ↓e_lenSetZL, e_kyI, e_kyS, Nat.reduceAdd, Nat.zero_add, List.length_cons, List.length_nil, List.length_map, Nat.reduceLeDiff, and_true, true_and, if_true, ite_true, decide_eq_true_eq, Bool.not_eq_true, Bool.false_eq_true, if_false, ite_false, ↓reduceIte, Int.reduceToNat, Int.reducePow, ne_eq, q_okI, q_okB, q_okN, q_okS, q_okL, q_okT, q_oks0, q_oks1, q_eqII, q_eqBB, q_eqSS, q_eqLL, q_eqTT, q_eqNN, q_eqNI, q_eqIN, q_eqs0, q_eqs1, Bool.true_and, Bool.and_true, beq_iff_eq, reduceCtorEq, wipeE, List.set_cons_zero, List.set_cons_succ, List.set_nil, Bool.not_true, Bool.not_false, List.getElem?_cons_zero, List.getElem?_cons_succ])
      refine fun lz => ⟨lz, ?_⟩
      refine lc_mapM D.int id (layI (pre.map (·.1))) _ _ (by exact trivial) _ (fun z hz kd k => ?_) ?_
      · simp only [e1_layers]
        obtain ⟨a, ha⟩ : ∃ a, look ks z = some a := by
          cases hl : look ks z with
          | some a => exact ⟨a, rfl⟩
          | none => exact absurd ((L.mem z).mpr (mem_setZ.mp hz)) (look_none.mp hl)
        (try simp only [BEq.rfl, ↓e_v0, ↓e_vs, ↓e_c, ↓e_op, ↓e_un, ↓e_test, ↓e_testK, ↓e_tru, ↓e_truL, ↓e_truT, ↓e_truB, ↓e_truI, ↓e_truN, ↓e_truS, ↓e_not, ↓e_and, ↓e_or, ↓e_andv, ↓e_orv, ↓e_notv, ↓e_andK, ↓e_orK, ↓e_notK, ↓e_if, ↓e_nil, ↓e_cons, ↓e_tup, ↓e_lst, ↓e_new, ↓e_call, ↓e_callK, ↓e_drop, ↓e_ret, ↓e_retN, ↓e_pass, ↓e_ifS, ↓e_g0, ↓e_gs, ↓e_gnil, ↓e_gcons, ↓e_gtup, ↓e_asg, ↓e_par, ↓e_parK, ↓e_par3, ↓e_par3K, ↓e_chain, ↓e_chK, ↓e_no, ↓e_some, ↓e_someK, ↓e_cut, ↓e_b, ↓e_iter, ↓e_iterL, ↓e_iterT, ↓e_iterS, ↓e_rng1, ↓e_rng1K, ↓e_rng2, ↓e_rng2K, ↓e_rng3, ↓e_rng3K, ↓e_enum, ↓e_enumL, ↓e_enumT, ↓e_zip, ↓e_zipL, ↓e_zipT, ↓e_zipM, ↓e_zipMK, ↓e_zipS, ↓e_zipSK, ↓e_for, ↓e_lc, ↓e_lcNew, ↓e_forN, ↓e_forC, ↓e_lcN, ↓e_lcC, ↓e_srcN, ↓e_srcC, ↓e_meth, ↓e_isL, ↓e_sub, ↓e_aug, ↓e_augK, ↓e_isi, ↓e_yes, ↓e_bits, ↓e_bitsK, ↓e_cLast, ↓e_cLink, ↓e_cK, ↓e_cNext, ↓e_testCh, ↓e_addI, ↓e_addB, ↓e_addS, ↓e_addT, ↓e_addL, ↓e_subI, ↓e_mulI, ↓e_mulT, ↓e_mulL, ↓e_divI, ↓e_modI, ↓e_powI, ↓e_negI, ↓e_iadd, ↓e_cmpI, ↓e_eq, ↓e_ne, ↓e_isn, ↓e_isnn, ↓e_isb, ↓e_ixL, ↓e_ixKL, ↓e_ixT, ↓e_cutL, ↓e_cutKL, ↓e_cutT, ↓e_lenL, ↓e_lenKL, ↓e_lenT, ↓e_abs, ↓e_intI, ↓e_intB, ↓e_max2, ↓e_min2, ↓e_listL, ↓e_listT, ↓e_listNL, ↓e_listNT, ↓e_tupL, ↓e_tupT, ↓e_sum1T, ↓e_sum1L, ↓e_max1T, ↓e_max1L, ↓e_drI, ↓e_drB, ↓e_drS, ↓e_drN, ↓e_drL, ↓e_drT, ↓e_seq, ↓e_back, ↓e_backL, ↓e_backT, ↓e_sortedL, ↓e_sortedNL, ↓e_divmod, ↓e_lr1, ↓e_lr1K, ↓e_lr2, ↓e_lr2K, ↓e_lr3, ↓e_lr3K, ↓e_revR1, ↓e_revR1K, ↓e_srtSet, ↓e_unlL, ↓e_inL, ↓e_inKL, ↓e_inT, ↓e_inFlat, ↓e_drK, ↓e_srtSetL, ↓e_lenSet, ↓e_lenSetL, ↓e_enumF, ↓e_enumFT, ↓e_reprL, ↓e_reprT, ↓e_reprI, ↓e_reprB, ↓e_reprN, ↓e_reprS, ↓e_strI, ↓e_isub, ↓e_strB, ↓e_addBI, ↓e_subBI, ↓e_subIB, ↓e_drG, ↓e_dnew, ↓e_dgetF, ↓e_dget1, ↓e_dget2, ↓e_dsetdS, ↓e_dgPut, ↓e_lenSetZ, ↓e_lenSetZL, e_kyI, e_kyS, Nat.reduceAdd, Nat.zero_add, List.length_cons, List.length_nil, List.length_map, Nat.reduceLeDiff, and_true, true_and, if_true, ite_true, decide_eq_true_eq, Bool.not_eq_true, Bool.false_eq_true, if_false, ite_false, ↓reduceIte, Int.reduceToNat, Int.reducePow, ne_eq, q_okI, q_okB, q_okN, q_okS, q_okL, q_okT, q_oks0, q_oks1, q_eqII, q_eqBB, q_eqSS, q_eqLL, q_eqTT, q_eqNN, q_eqNI, q_eqIN, q_eqs0, q_eqs1, Bool.true_and, Bool.and_true, beq_iff_eq, reduceCtorEq, wipeE, List.set_cons_zero, List.set_cons_succ, List.set_nil, Bool.not_true, Bool.not_false, List.getElem?_cons_zero, List.getElem?_cons_succ, e_dget hd, valR_tab keyI, ha, Option.map_some, Option.some.injEq, exists_eq_left', e_tupO (L.cell z a ha).2])
        exact k
      rw [List.nil_append, List.map_id]
      obtain ⟨cells, rfl, hc⟩ := L.pre
      refine q ks cells hc fun p hp => ?_
      have ha := look_of_mem L.nd hp
      have l1 := L.low p hp
      have l2 := (L.cell _ _ ha).1
      simp at l1
      omega
theorem belows_ints0 (ns : List Int) : belows 0 (ns.map D.int) = true := belows_int 0 ns
theorem lay_frz {st : Sto} {ks : List (Int × Nat)} {cells : Sto} {res : List D} {kk : DK} (hc : ∀ c ∈ cells, ∃ is : List Int, c = is.map D.int) (hk : ∀ p ∈ ks, st.length < p.2 ∧ p.2 < st.length + 1 + cells.length) (hr : belows 0 res = true) (h : kk (.lst res) st) :
    Frz st (.obj (st ++ [tabR D.int D.obj ks] ++ cells).length) (st ++ [tabR D.int D.obj ks] ++ cells ++ [res]) kk := by
  have cl : ∀ c ∈ cells ++ [res], belows 0 c = true := fun c m => by
    rcases List.mem_append.mp m with q | q
    · obtain ⟨is, rfl⟩ := hc c q
      exact belows_ints0 is
    · rw [List.mem_singleton.mp q]; exact hr
  have e : st ++ [tabR D.int D.obj ks] ++ cells ++ [res] = st ++ (tabR D.int D.obj ks :: (cells ++ [res])) := by simp
  rw [e]
  have rows : belows st.length ((tabR D.int D.obj ks).map (frzs (st.length + 1) (cells ++ [res]))) = true := by
    have gen : ∀ ls : List (Int × Nat), (∀ p ∈ ls, p ∈ ks) → belows st.length ((tabR D.int D.obj ls).map (frzs (st.length + 1) (cells ++ [res]))) = true := by
      intro ls
      induction ls with
      | nil => intro _; rfl
      | cons p r ih =>
        intro hp
        have ip := ih fun q m => hp q (List.mem_cons_of_mem _ m)
        obtain ⟨k1, k2⟩ := hk p (hp p List.mem_cons_self)
        show (below st.length (frzs (st.length + 1) (cells ++ [res]) (.tup [.int p.1, .obj p.2])) && _) = true
        rw [Bool.and_eq_true]
        refine ⟨?_, ip⟩
        have lt : p.2 - (st.length + 1) < (cells ++ [res]).length := by rw [List.length_append]; simp; omega
        rw [frzs_tup, List.map_cons, List.map_cons, List.map_nil, frzs_closed (d := .int p.1) rfl, frzs_obj _ _ _ _ cl (by omega) (List.getElem?_eq_getElem lt)]
        simp only [below, belows, Bool.and_true, Bool.true_and]
        exact belows_0 (cl _ (List.getElem_mem lt))
    exact gen ks fun p m => m
  refine frz_locs ⟨rows, safe_closed _ _ cl⟩ ?_
  have e2 : frzs st.length (tabR D.int D.obj ks :: (cells ++ [res])) (.obj (st ++ [tabR D.int D.obj ks] ++ cells).length) = .lst res := by
    show sub _ _ (frzs (st.length + 1) (cells ++ [res]) _) = _
    rw [frzs_obj _ _ _ res cl (by simp) (by rw [show (st ++ [tabR D.int D.obj ks] ++ cells).length - (st.length + 1) = cells.length by simp; omega, List.getElem?_concat_length])]
    refine sub_below _ ?_
    simp only [below]
    exact belows_0 hr
  rw [e2]
  exact h
def sp_layers : SpD := fun ds st kk => ∃ (ws : List Int) (h : Int), ds = [.tup (ws.map D.int), .int h] ∧ 1 ≤ h ∧ h ≤ 60 ∧ kk (.lst (layL (lastsL ws h))) st
theorem len_layers (ds : List D) (st : Sto) (kk : DK) (h : sp_layers ds st kk) : ds.length = 2 := by
  obtain ⟨_, _, rfl, _⟩ := h
  rfl
theorem p_layers : BodyD true N_layers sp_layers t_layers := by
  rintro ds st kk ⟨ws, h, rfl, h1, h2, q⟩
  rw [st_layers]
  refine run_layers _ ws h st h1 h2 fun ks cells hc hk => ?_
  exact lay_frz hc hk (belows_lay 0 _ _) q
def t_spots : DS :=
    (dRet (dOp addD (dOp divD (dOp subD (dOp ixD (dVar 0) (dC (.int 1))) (dOp ixD (dVar 0) (dC (.int 0)))) (dC (.int 2))) (dC (.int 1))))
theorem st_spots (a0 : D) : startD N_spots [a0] = [some a0] := rfl
def sp_spots : SpD := fun ds st kk => ∃ a b : Int, ds = [.tup [.int a, .int b]] ∧ kk (.int ((b - a) / 2 + 1)) st
theorem len_spots (ds : List D) (st : Sto) (kk : DK) (h : sp_spots ds st kk) : ds.length = 1 := by
  obtain ⟨a, b, rfl, _⟩ := h
  rfl
theorem p_spots : BodyD false N_spots sp_spots t_spots := by
  rintro ds st kk ⟨a, b, rfl, h⟩
  rw [st_spots]
  simp only [t_spots]
  (try simp only [BEq.rfl, ↓e_v0, ↓e_vs, ↓e_c, ↓e_op, ↓e_un, ↓e_test, ↓e_testK, ↓e_tru, ↓e_truL, ↓e_truT, ↓e_truB, ↓e_truI, ↓e_truN, ↓e_truS, ↓e_not, ↓e_and, ↓e_or, ↓e_andv, ↓e_orv, ↓e_notv, ↓e_andK, ↓e_orK, ↓e_notK, ↓e_if, ↓e_nil, ↓e_cons, ↓e_tup, ↓e_lst, ↓e_new, ↓e_call, ↓e_callK, ↓e_drop, ↓e_ret, ↓e_retN, ↓e_pass, ↓e_ifS, ↓e_g0, ↓e_gs, ↓e_gnil, ↓e_gcons, ↓e_gtup, ↓e_asg, ↓e_par, ↓e_parK, ↓e_par3, ↓e_par3K, ↓e_chain, ↓e_chK, ↓e_no, ↓e_some, ↓e_someK, ↓e_cut, ↓e_b, ↓e_iter, ↓e_iterL, ↓e_iterT, ↓e_iterS, ↓e_rng1, ↓e_rng1K, ↓e_rng2, ↓e_rng2K, ↓e_rng3, ↓e_rng3K, ↓e_enum, ↓e_enumL, ↓e_enumT, ↓e_zip, ↓e_zipL, ↓e_zipT, ↓e_zipM, ↓e_zipMK, ↓e_zipS, ↓e_zipSK, ↓e_for, ↓e_lc, ↓e_lcNew, ↓e_forN, ↓e_forC, ↓e_lcN, ↓e_lcC, ↓e_srcN, ↓e_srcC, ↓e_meth, ↓e_isL, ↓e_sub, ↓e_aug, ↓e_augK, ↓e_isi, ↓e_yes, ↓e_bits, ↓e_bitsK, ↓e_cLast, ↓e_cLink, ↓e_cK, ↓e_cNext, ↓e_testCh, ↓e_addI, ↓e_addB, ↓e_addS, ↓e_addT, ↓e_addL, ↓e_subI, ↓e_mulI, ↓e_mulT, ↓e_mulL, ↓e_divI, ↓e_modI, ↓e_powI, ↓e_negI, ↓e_iadd, ↓e_cmpI, ↓e_eq, ↓e_ne, ↓e_isn, ↓e_isnn, ↓e_isb, ↓e_ixL, ↓e_ixKL, ↓e_ixT, ↓e_cutL, ↓e_cutKL, ↓e_cutT, ↓e_lenL, ↓e_lenKL, ↓e_lenT, ↓e_abs, ↓e_intI, ↓e_intB, ↓e_max2, ↓e_min2, ↓e_listL, ↓e_listT, ↓e_listNL, ↓e_listNT, ↓e_tupL, ↓e_tupT, ↓e_sum1T, ↓e_sum1L, ↓e_max1T, ↓e_max1L, ↓e_drI, ↓e_drB, ↓e_drS, ↓e_drN, ↓e_drL, ↓e_drT, ↓e_seq, ↓e_back, ↓e_backL, ↓e_backT, ↓e_sortedL, ↓e_sortedNL, ↓e_divmod, ↓e_lr1, ↓e_lr1K, ↓e_lr2, ↓e_lr2K, ↓e_lr3, ↓e_lr3K, ↓e_revR1, ↓e_revR1K, ↓e_srtSet, ↓e_unlL, ↓e_inL, ↓e_inKL, ↓e_inT, ↓e_inFlat, ↓e_drK, ↓e_srtSetL, ↓e_lenSet, ↓e_lenSetL, ↓e_enumF, ↓e_enumFT, ↓e_reprL, ↓e_reprT, ↓e_reprI, ↓e_reprB, ↓e_reprN, ↓e_reprS, ↓e_strI, ↓e_isub, ↓e_strB, ↓e_addBI, ↓e_subBI, ↓e_subIB, ↓e_drG, ↓e_dnew, ↓e_dgetF, ↓e_dget1, ↓e_dget2, ↓e_dsetdS, ↓e_dgPut, ↓e_lenSetZ, ↓e_lenSetZL, e_kyI, e_kyS, Nat.reduceAdd, Nat.zero_add, List.length_cons, List.length_nil, List.length_map, Nat.reduceLeDiff, and_true, true_and, if_true, ite_true, decide_eq_true_eq, Bool.not_eq_true, Bool.false_eq_true, if_false, ite_false, ↓reduceIte, Int.reduceToNat, Int.reducePow, ne_eq, q_okI, q_okB, q_okN, q_okS, q_okL, q_okT, q_oks0, q_oks1, q_eqII, q_eqBB, q_eqSS, q_eqLL, q_eqTT, q_eqNN, q_eqNI, q_eqIN, q_eqs0, q_eqs1, Bool.true_and, Bool.and_true, beq_iff_eq, reduceCtorEq, wipeE, List.set_cons_zero, List.set_cons_succ, List.set_nil, Bool.not_true, Bool.not_false, List.getElem?_cons_zero, List.getElem?_cons_succ, p0, p1, Option.some.injEq, exists_eq_left'])
  exact ⟨dv2, h⟩
def t_parts : DS :=
    (dRet (dChain (cmpI fun i j => decide (i < j)) (cmpI fun i j => decide (i < j)) (dOp ixD (dVar 0) (dC (.int 0))) (dOp mulD (dC (.int 2)) (dVar 1)) (dOp ixD (dVar 0) (dC (.int 1)))))
theorem st_parts (a0 a1 : D) : startD N_parts [a0, a1] = [some a0, some a1] := rfl
def sp_parts : SpD := fun ds st kk => ∃ a b w : Int, ds = [.tup [.int a, .int b], .int w] ∧ kk (.bl (decide (a < 2 * w ∧ 2 * w < b))) st
theorem len_parts (ds : List D) (st : Sto) (kk : DK) (h : sp_parts ds st kk) : ds.length = 2 := by
  obtain ⟨a, b, w, rfl, _⟩ := h
  rfl
theorem p_parts : BodyD false N_parts sp_parts t_parts := by
  rintro ds st kk ⟨a, b, w, rfl, h⟩
  rw [st_parts]
  simp only [t_parts]
  (try simp only [BEq.rfl, ↓e_v0, ↓e_vs, ↓e_c, ↓e_op, ↓e_un, ↓e_test, ↓e_testK, ↓e_tru, ↓e_truL, ↓e_truT, ↓e_truB, ↓e_truI, ↓e_truN, ↓e_truS, ↓e_not, ↓e_and, ↓e_or, ↓e_andv, ↓e_orv, ↓e_notv, ↓e_andK, ↓e_orK, ↓e_notK, ↓e_if, ↓e_nil, ↓e_cons, ↓e_tup, ↓e_lst, ↓e_new, ↓e_call, ↓e_callK, ↓e_drop, ↓e_ret, ↓e_retN, ↓e_pass, ↓e_ifS, ↓e_g0, ↓e_gs, ↓e_gnil, ↓e_gcons, ↓e_gtup, ↓e_asg, ↓e_par, ↓e_parK, ↓e_par3, ↓e_par3K, ↓e_chain, ↓e_chK, ↓e_no, ↓e_some, ↓e_someK, ↓e_cut, ↓e_b, ↓e_iter, ↓e_iterL, ↓e_iterT, ↓e_iterS, ↓e_rng1, ↓e_rng1K, ↓e_rng2, ↓e_rng2K, ↓e_rng3, ↓e_rng3K, ↓e_enum, ↓e_enumL, ↓e_enumT, ↓e_zip, ↓e_zipL, ↓e_zipT, ↓e_zipM, ↓e_zipMK, ↓e_zipS, ↓e_zipSK, ↓e_for, ↓e_lc, ↓e_lcNew, ↓e_forN, ↓e_forC, ↓e_lcN, ↓e_lcC, ↓e_srcN, ↓e_srcC, ↓e_meth, ↓e_isL, ↓e_sub, ↓e_aug, ↓e_augK, ↓e_isi, ↓e_yes, ↓e_bits, ↓e_bitsK, ↓e_cLast, ↓e_cLink, ↓e_cK, ↓e_cNext, ↓e_testCh, ↓e_addI, ↓e_addB, ↓e_addS, ↓e_addT, ↓e_addL, ↓e_subI, ↓e_mulI, ↓e_mulT, ↓e_mulL, ↓e_divI, ↓e_modI, ↓e_powI, ↓e_negI, ↓e_iadd, ↓e_cmpI, ↓e_eq, ↓e_ne, ↓e_isn, ↓e_isnn, ↓e_isb, ↓e_ixL, ↓e_ixKL, ↓e_ixT, ↓e_cutL, ↓e_cutKL, ↓e_cutT, ↓e_lenL, ↓e_lenKL, ↓e_lenT, ↓e_abs, ↓e_intI, ↓e_intB, ↓e_max2, ↓e_min2, ↓e_listL, ↓e_listT, ↓e_listNL, ↓e_listNT, ↓e_tupL, ↓e_tupT, ↓e_sum1T, ↓e_sum1L, ↓e_max1T, ↓e_max1L, ↓e_drI, ↓e_drB, ↓e_drS, ↓e_drN, ↓e_drL, ↓e_drT, ↓e_seq, ↓e_back, ↓e_backL, ↓e_backT, ↓e_sortedL, ↓e_sortedNL, ↓e_divmod, ↓e_lr1, ↓e_lr1K, ↓e_lr2, ↓e_lr2K, ↓e_lr3, ↓e_lr3K, ↓e_revR1, ↓e_revR1K, ↓e_srtSet, ↓e_unlL, ↓e_inL, ↓e_inKL, ↓e_inT, ↓e_inFlat, ↓e_drK, ↓e_srtSetL, ↓e_lenSet, ↓e_lenSetL, ↓e_enumF, ↓e_enumFT, ↓e_reprL, ↓e_reprT, ↓e_reprI, ↓e_reprB, ↓e_reprN, ↓e_reprS, ↓e_strI, ↓e_isub, ↓e_strB, ↓e_addBI, ↓e_subBI, ↓e_subIB, ↓e_drG, ↓e_dnew, ↓e_dgetF, ↓e_dget1, ↓e_dget2, ↓e_dsetdS, ↓e_dgPut, ↓e_lenSetZ, ↓e_lenSetZL, e_kyI, e_kyS, Nat.reduceAdd, Nat.zero_add, List.length_cons, List.length_nil, List.length_map, Nat.reduceLeDiff, and_true, true_and, if_true, ite_true, decide_eq_true_eq, Bool.not_eq_true, Bool.false_eq_true, if_false, ite_false, ↓reduceIte, Int.reduceToNat, Int.reducePow, ne_eq, q_okI, q_okB, q_okN, q_okS, q_okL, q_okT, q_oks0, q_oks1, q_eqII, q_eqBB, q_eqSS, q_eqLL, q_eqTT, q_eqNN, q_eqNI, q_eqIN, q_eqs0, q_eqs1, Bool.true_and, Bool.and_true, beq_iff_eq, reduceCtorEq, wipeE, List.set_cons_zero, List.set_cons_succ, List.set_nil, Bool.not_true, Bool.not_false, List.getElem?_cons_zero, List.getElem?_cons_succ, p0, p1, Option.some.injEq, exists_eq_left'])
  refine ⟨mul2 _, ?_⟩
  (try simp only [BEq.rfl, ↓e_v0, ↓e_vs, ↓e_c, ↓e_op, ↓e_un, ↓e_test, ↓e_testK, ↓e_tru, ↓e_truL, ↓e_truT, ↓e_truB, ↓e_truI, ↓e_truN, ↓e_truS, ↓e_not, ↓e_and, ↓e_or, ↓e_andv, ↓e_orv, ↓e_notv, ↓e_andK, ↓e_orK, ↓e_notK, ↓e_if, ↓e_nil, ↓e_cons, ↓e_tup, ↓e_lst, ↓e_new, ↓e_call, ↓e_callK, ↓e_drop, ↓e_ret, ↓e_retN, ↓e_pass, ↓e_ifS, ↓e_g0, ↓e_gs, ↓e_gnil, ↓e_gcons, ↓e_gtup, ↓e_asg, ↓e_par, ↓e_parK, ↓e_par3, ↓e_par3K, ↓e_chain, ↓e_chK, ↓e_no, ↓e_some, ↓e_someK, ↓e_cut, ↓e_b, ↓e_iter, ↓e_iterL, ↓e_iterT, ↓e_iterS, ↓e_rng1, ↓e_rng1K, ↓e_rng2, ↓e_rng2K, ↓e_rng3, ↓e_rng3K, ↓e_enum, ↓e_enumL, ↓e_enumT, ↓e_zip, ↓e_zipL, ↓e_zipT, ↓e_zipM, ↓e_zipMK, ↓e_zipS, ↓e_zipSK, ↓e_for, ↓e_lc, ↓e_lcNew, ↓e_forN, ↓e_forC, ↓e_lcN, ↓e_lcC, ↓e_srcN, ↓e_srcC, ↓e_meth, ↓e_isL, ↓e_sub, ↓e_aug, ↓e_augK, ↓e_isi, ↓e_yes, ↓e_bits, ↓e_bitsK, ↓e_cLast, ↓e_cLink, ↓e_cK, ↓e_cNext, ↓e_testCh, ↓e_addI, ↓e_addB, ↓e_addS, ↓e_addT, ↓e_addL, ↓e_subI, ↓e_mulI, ↓e_mulT, ↓e_mulL, ↓e_divI, ↓e_modI, ↓e_powI, ↓e_negI, ↓e_iadd, ↓e_cmpI, ↓e_eq, ↓e_ne, ↓e_isn, ↓e_isnn, ↓e_isb, ↓e_ixL, ↓e_ixKL, ↓e_ixT, ↓e_cutL, ↓e_cutKL, ↓e_cutT, ↓e_lenL, ↓e_lenKL, ↓e_lenT, ↓e_abs, ↓e_intI, ↓e_intB, ↓e_max2, ↓e_min2, ↓e_listL, ↓e_listT, ↓e_listNL, ↓e_listNT, ↓e_tupL, ↓e_tupT, ↓e_sum1T, ↓e_sum1L, ↓e_max1T, ↓e_max1L, ↓e_drI, ↓e_drB, ↓e_drS, ↓e_drN, ↓e_drL, ↓e_drT, ↓e_seq, ↓e_back, ↓e_backL, ↓e_backT, ↓e_sortedL, ↓e_sortedNL, ↓e_divmod, ↓e_lr1, ↓e_lr1K, ↓e_lr2, ↓e_lr2K, ↓e_lr3, ↓e_lr3K, ↓e_revR1, ↓e_revR1K, ↓e_srtSet, ↓e_unlL, ↓e_inL, ↓e_inKL, ↓e_inT, ↓e_inFlat, ↓e_drK, ↓e_srtSetL, ↓e_lenSet, ↓e_lenSetL, ↓e_enumF, ↓e_enumFT, ↓e_reprL, ↓e_reprT, ↓e_reprI, ↓e_reprB, ↓e_reprN, ↓e_reprS, ↓e_strI, ↓e_isub, ↓e_strB, ↓e_addBI, ↓e_subBI, ↓e_subIB, ↓e_drG, ↓e_dnew, ↓e_dgetF, ↓e_dget1, ↓e_dget2, ↓e_dsetdS, ↓e_dgPut, ↓e_lenSetZ, ↓e_lenSetZL, e_kyI, e_kyS, Nat.reduceAdd, Nat.zero_add, List.length_cons, List.length_nil, List.length_map, Nat.reduceLeDiff, and_true, true_and, if_true, ite_true, decide_eq_true_eq, Bool.not_eq_true, Bool.false_eq_true, if_false, ite_false, ↓reduceIte, Int.reduceToNat, Int.reducePow, ne_eq, q_okI, q_okB, q_okN, q_okS, q_okL, q_okT, q_oks0, q_oks1, q_eqII, q_eqBB, q_eqSS, q_eqLL, q_eqTT, q_eqNN, q_eqNI, q_eqIN, q_eqs0, q_eqs1, Bool.true_and, Bool.and_true, beq_iff_eq, reduceCtorEq, wipeE, List.set_cons_zero, List.set_cons_succ, List.set_nil, Bool.not_true, Bool.not_false, List.getElem?_cons_zero, List.getElem?_cons_succ, p0, p1, Option.some.injEq, exists_eq_left'])
  by_cases h1 : a < 2 * w
  · rw [if_pos h1]
    simpa [h1] using h
  · rw [if_neg h1]
    simpa [h1] using h
def t_folded : DS :=
    (dSeq (dAsg (dVar 0) (dgTup 2 (dgCons (dgName 2) (dgCons (dgName 3) dgNil))))
    (dSeq (dIfS (dTru (dCall sp_parts (dCons (dVar 0) (dCons (dVar 1) dNil)))) (dRet (dTup (dCons (dC (.int 1)) (dCons (dB bMax2 (dCons (dOp subD (dOp mulD (dC (.int 2)) (dVar 1)) (dVar 2)) (dCons (dOp subD (dVar 3) (dOp mulD (dC (.int 2)) (dVar 1))) dNil))) dNil)))) dPass)
    (dSeq (dIfS (dTest (dOp (cmpI fun i j => decide (i < j)) (dVar 3) (dOp mulD (dC (.int 2)) (dVar 1)))) (dRet (dTup (dCons (dOp subD (dOp mulD (dC (.int 2)) (dVar 1)) (dVar 3)) (dCons (dOp subD (dOp mulD (dC (.int 2)) (dVar 1)) (dVar 2)) dNil)))) dPass)
    (dRet (dTup (dCons (dOp subD (dVar 2) (dOp mulD (dC (.int 2)) (dVar 1))) (dCons (dOp subD (dVar 3) (dOp mulD (dC (.int 2)) (dVar 1))) dNil)))))))
theorem st_folded (a0 a1 : D) : startD N_folded [a0, a1] = [some a0, some a1, none, none] := rfl
def sp_folded : SpD := fun ds st kk => ∃ (r : Int × Int) (w : Int), ds = [tupR r, .int w] ∧ kk (tupR (foldR r w)) st
theorem len_folded (ds : List D) (st : Sto) (kk : DK) (h : sp_folded ds st kk) : ds.length = 2 := by
  obtain ⟨r, w, rfl, _⟩ := h
  rfl
theorem p_folded : BodyD false N_folded sp_folded t_folded := by
  rintro ds st kk ⟨⟨a, b⟩, w, rfl, h⟩
  rw [st_folded]
  simp only [t_folded, tupR]
  refine seq_by fun nx hnx => ?_
  (try simp only [BEq.rfl, ↓e_v0, ↓e_vs, ↓e_c, ↓e_op, ↓e_un, ↓e_test, ↓e_testK, ↓e_tru, ↓e_truL, ↓e_truT, ↓e_truB, ↓e_truI, ↓e_truN, ↓e_truS, ↓e_not, ↓e_and, ↓e_or, ↓e_andv, ↓e_orv, ↓e_notv, ↓e_andK, ↓e_orK, ↓e_notK, ↓e_if, ↓e_nil, ↓e_cons, ↓e_tup, ↓e_lst, ↓e_new, ↓e_call, ↓e_callK, ↓e_drop, ↓e_ret, ↓e_retN, ↓e_pass, ↓e_ifS, ↓e_g0, ↓e_gs, ↓e_gnil, ↓e_gcons, ↓e_gtup, ↓e_asg, ↓e_par, ↓e_parK, ↓e_par3, ↓e_par3K, ↓e_chain, ↓e_chK, ↓e_no, ↓e_some, ↓e_someK, ↓e_cut, ↓e_b, ↓e_iter, ↓e_iterL, ↓e_iterT, ↓e_iterS, ↓e_rng1, ↓e_rng1K, ↓e_rng2, ↓e_rng2K, ↓e_rng3, ↓e_rng3K, ↓e_enum, ↓e_enumL, ↓e_enumT, ↓e_zip, ↓e_zipL, ↓e_zipT, ↓e_zipM, ↓e_zipMK, ↓e_zipS, ↓e_zipSK, ↓e_for, ↓e_lc, ↓e_lcNew, ↓e_forN, ↓e_forC, ↓e_lcN, ↓e_lcC, ↓e_srcN, ↓e_srcC, ↓e_meth, ↓e_isL, ↓e_sub, ↓e_aug, ↓e_augK, ↓e_isi, ↓e_yes, ↓e_bits, ↓e_bitsK, ↓e_cLast, ↓e_cLink, ↓e_cK, ↓e_cNext, ↓e_testCh, ↓e_addI, ↓e_addB, ↓e_addS, ↓e_addT, ↓e_addL, ↓e_subI, ↓e_mulI, ↓e_mulT, ↓e_mulL, ↓e_divI, ↓e_modI, ↓e_powI, ↓e_negI, ↓e_iadd, ↓e_cmpI, ↓e_eq, ↓e_ne, ↓e_isn, ↓e_isnn, ↓e_isb, ↓e_ixL, ↓e_ixKL, ↓e_ixT, ↓e_cutL, ↓e_cutKL, ↓e_cutT, ↓e_lenL, ↓e_lenKL, ↓e_lenT, ↓e_abs, ↓e_intI, ↓e_intB, ↓e_max2, ↓e_min2, ↓e_listL, ↓e_listT, ↓e_listNL, ↓e_listNT, ↓e_tupL, ↓e_tupT, ↓e_sum1T, ↓e_sum1L, ↓e_max1T, ↓e_max1L, ↓e_drI, ↓e_drB, ↓e_drS, ↓e_drN, ↓e_drL, ↓e_drT, ↓e_seq, ↓e_back, ↓e_backL, ↓e_backT, ↓e_sortedL, ↓e_sortedNL, ↓e_divmod, ↓e_lr1, ↓e_lr1K, ↓e_lr2, ↓e_lr2K, ↓e_lr3, ↓e_lr3K, ↓e_revR1, ↓e_revR1K, ↓e_srtSet, ↓e_unlL, ↓e_inL, ↓e_inKL, ↓e_inT, ↓e_inFlat, ↓e_drK, ↓e_srtSetL, ↓e_lenSet, ↓e_lenSetL, ↓e_enumF, ↓e_enumFT, ↓e_reprL, ↓e_reprT, ↓e_reprI, ↓e_reprB, ↓e_reprN, ↓e_reprS, ↓e_strI, ↓e_isub, ↓e_strB, ↓e_addBI, ↓e_subBI, ↓e_subIB, ↓e_drG, ↓e_dnew, ↓e_dgetF, ↓e_dget1, ↓e_dget2, ↓e_dsetdS, ↓e_dgPut, ↓e_lenSetZ, ↓e_lenSetZL, e_kyI, e_kyS, Nat.reduceAdd, Nat.zero_add, List.length_cons, List.length_nil, List.length_map, Nat.reduceLeDiff, and_true, true_and, if_true, ite_true, decide_eq_true_eq, Bool.not_eq_true, Bool.false_eq_true, if_false, ite_false, ↓reduceIte, Int.reduceToNat, Int.reducePow, ne_eq, q_okI, q_okB, q_okN, q_okS, q_okL, q_okT, q_oks0, q_oks1, q_eqII, q_eqBB, q_eqSS, q_eqLL, q_eqTT, q_eqNN, q_eqNI, q_eqIN, q_eqs0, q_eqs1, Bool.true_and, Bool.and_true, beq_iff_eq, reduceCtorEq, wipeE, List.set_cons_zero, List.set_cons_succ, List.set_nil, Bool.not_true, Bool.not_false, List.getElem?_cons_zero, List.getElem?_cons_succ])
  rw [← hnx]
  (try simp only [BEq.rfl, ↓e_v0, ↓e_vs, ↓e_c, ↓e_op, ↓e_un, ↓e_test, ↓e_testK, ↓e_tru, ↓e_truL, ↓e_truT, ↓e_truB, ↓e_truI, ↓e_truN, ↓e_truS, ↓e_not, ↓e_and, ↓e_or, ↓e_andv, ↓e_orv, ↓e_notv, ↓e_andK, ↓e_orK, ↓e_notK, ↓e_if, ↓e_nil, ↓e_cons, ↓e_tup, ↓e_lst, ↓e_new, ↓e_call, ↓e_callK, ↓e_drop, ↓e_ret, ↓e_retN, ↓e_pass, ↓e_ifS, ↓e_g0, ↓e_gs, ↓e_gnil, ↓e_gcons, ↓e_gtup, ↓e_asg, ↓e_par, ↓e_parK, ↓e_par3, ↓e_par3K, ↓e_chain, ↓e_chK, ↓e_no, ↓e_some, ↓e_someK, ↓e_cut, ↓e_b, ↓e_iter, ↓e_iterL, ↓e_iterT, ↓e_iterS, ↓e_rng1, ↓e_rng1K, ↓e_rng2, ↓e_rng2K, ↓e_rng3, ↓e_rng3K, ↓e_enum, ↓e_enumL, ↓e_enumT, ↓e_zip, ↓e_zipL, ↓e_zipT, ↓e_zipM, ↓e_zipMK, ↓e_zipS, ↓e_zipSK, ↓e_for, ↓e_lc, ↓e_lcNew, ↓e_forN, ↓e_forC, ↓e_lcN, ↓e_lcC, ↓e_srcN, ↓e_srcC, ↓e_meth, ↓e_isL, ↓e_sub, ↓e_aug, ↓e_augK, ↓e_isi, ↓e_yes, ↓e_bits, ↓e_bitsK, ↓e_cLast, ↓e_cLink, ↓e_cK, ↓e_cNext, ↓e_testCh, ↓e_addI, ↓e_addB, ↓e_addS, ↓e_addT, ↓e_addL, ↓e_subI, ↓e_mulI, ↓e_mulT, ↓e_mulL, ↓e_divI, ↓e_modI, ↓e_powI, ↓e_negI, ↓e_iadd, ↓e_cmpI, ↓e_eq, ↓e_ne, ↓e_isn, ↓e_isnn, ↓e_isb, ↓e_ixL, ↓e_ixKL, ↓e_ixT, ↓e_cutL, ↓e_cutKL, ↓e_cutT, ↓e_lenL, ↓e_lenKL, ↓e_lenT, ↓e_abs, ↓e_intI, ↓e_intB, ↓e_max2, ↓e_min2, ↓e_listL, ↓e_listT, ↓e_listNL, ↓e_listNT, ↓e_tupL, ↓e_tupT, ↓e_sum1T, ↓e_sum1L, ↓e_max1T, ↓e_max1L, ↓e_drI, ↓e_drB, ↓e_drS, ↓e_drN, ↓e_drL, ↓e_drT, ↓e_seq, ↓e_back, ↓e_backL, ↓e_backT, ↓e_sortedL, ↓e_sortedNL, ↓e_divmod, ↓e_lr1, ↓e_lr1K, ↓e_lr2, ↓e_lr2K, ↓e_lr3, ↓e_lr3K, ↓e_revR1, ↓e_revR1K, ↓e_srtSet, ↓e_unlL, ↓e_inL, ↓e_inKL, ↓e_inT, ↓e_inFlat, ↓e_drK, ↓e_srtSetL, ↓e_lenSet, ↓e_lenSetL, ↓e_enumF, ↓e_enumFT, ↓e_reprL, ↓e_reprT, ↓e_reprI, ↓e_reprB, ↓e_reprN, ↓e_reprS, ↓e_strI, ↓e_isub, ↓e_strB, ↓e_addBI, ↓e_subBI, ↓e_subIB, ↓e_drG, ↓e_dnew, ↓e_dgetF, ↓e_dget1, ↓e_dget2, ↓e_dsetdS, ↓e_dgPut, ↓e_lenSetZ, ↓e_lenSetZL, e_kyI, e_kyS, Nat.reduceAdd, Nat.zero_add, List.length_cons, List.length_nil, List.length_map, Nat.reduceLeDiff, and_true, true_and, if_true, ite_true, decide_eq_true_eq, Bool.not_eq_true, Bool.false_eq_true, if_false, ite_false, ↓reduceIte, Int.reduceToNat, Int.reducePow, ne_eq, q_okI, q_okB, q_okN, q_okS, q_okL, q_okT, q_oks0, q_oks1, q_eqII, q_eqBB, q_eqSS, q_eqLL, q_eqTT, q_eqNN, q_eqNI, q_eqIN, q_eqs0, q_eqs1, Bool.true_and, Bool.and_true, beq_iff_eq, reduceCtorEq, wipeE, List.set_cons_zero, List.set_cons_succ, List.set_nil, Bool.not_true, Bool.not_false, List.getElem?_cons_zero, List.getElem?_cons_succ])
  refine ⟨a, b, w, rfl, ?_⟩
  (try simp only [BEq.rfl, ↓e_v0, ↓e_vs, ↓e_c, ↓e_op, ↓e_un, ↓e_test, ↓e_testK, ↓e_tru, ↓e_truL, ↓e_truT, ↓e_truB, ↓e_truI, ↓e_truN, ↓e_truS, ↓e_not, ↓e_and, ↓e_or, ↓e_andv, ↓e_orv, ↓e_notv, ↓e_andK, ↓e_orK, ↓e_notK, ↓e_if, ↓e_nil, ↓e_cons, ↓e_tup, ↓e_lst, ↓e_new, ↓e_call, ↓e_callK, ↓e_drop, ↓e_ret, ↓e_retN, ↓e_pass, ↓e_ifS, ↓e_g0, ↓e_gs, ↓e_gnil, ↓e_gcons, ↓e_gtup, ↓e_asg, ↓e_par, ↓e_parK, ↓e_par3, ↓e_par3K, ↓e_chain, ↓e_chK, ↓e_no, ↓e_some, ↓e_someK, ↓e_cut, ↓e_b, ↓e_iter, ↓e_iterL, ↓e_iterT, ↓e_iterS, ↓e_rng1, ↓e_rng1K, ↓e_rng2, ↓e_rng2K, ↓e_rng3, ↓e_rng3K, ↓e_enum, ↓e_enumL, ↓e_enumT, ↓e_zip, ↓e_zipL, ↓e_zipT, ↓e_zipM, ↓e_zipMK, ↓e_zipS, ↓e_zipSK, ↓e_for, ↓e_lc, ↓e_lcNew, ↓e_forN, ↓e_forC, ↓e_lcN, ↓e_lcC, ↓e_srcN, ↓e_srcC, ↓e_meth, ↓e_isL, ↓e_sub, ↓e_aug, ↓e_augK, ↓e_isi, ↓e_yes, ↓e_bits, ↓e_bitsK, ↓e_cLast, ↓e_cLink, ↓e_cK, ↓e_cNext, ↓e_testCh, ↓e_addI, ↓e_addB, ↓e_addS, ↓e_addT, ↓e_addL, ↓e_subI, ↓e_mulI, ↓e_mulT, ↓e_mulL, ↓e_divI, ↓e_modI, ↓e_powI, ↓e_negI, ↓e_iadd, ↓e_cmpI, ↓e_eq, ↓e_ne, ↓e_isn, ↓e_isnn, ↓e_isb, ↓e_ixL, ↓e_ixKL, ↓e_ixT, ↓e_cutL, ↓e_cutKL, ↓e_cutT, ↓e_lenL, ↓e_lenKL, ↓e_lenT, ↓e_abs, ↓e_intI, ↓e_intB, ↓e_max2, ↓e_min2, ↓e_listL, ↓e_listT, ↓e_listNL, ↓e_listNT, ↓e_tupL, ↓e_tupT, ↓e_sum1T, ↓e_sum1L, ↓e_max1T, ↓e_max1L, ↓e_drI, ↓e_drB, ↓e_drS, ↓e_drN, ↓e_drL, ↓e_drT, ↓e_seq, ↓e_back, ↓e_backL, ↓e_backT, ↓e_sortedL, ↓e_sortedNL, ↓e_divmod, ↓e_lr1, ↓e_lr1K, ↓e_lr2, ↓e_lr2K, ↓e_lr3, ↓e_lr3K, ↓e_revR1, ↓e_revR1K, ↓e_srtSet, ↓e_unlL, ↓e_inL, ↓e_inKL, ↓e_inT, ↓e_inFlat, ↓e_drK, ↓e_srtSetL, ↓e_lenSet, ↓e_lenSetL, ↓e_enumF, ↓e_enumFT, ↓e_reprL, ↓e_reprT, ↓e_reprI, ↓e_reprB, ↓e_reprN, ↓e_reprS, ↓e_strI, ↓e_isub, ↓e_strB, ↓e_addBI, ↓e_subBI, ↓e_subIB, ↓e_drG, ↓e_dnew, ↓e_dgetF, ↓e_dget1, ↓e_dget2, ↓e_dsetdS, ↓e_dgPut, ↓e_lenSetZ, ↓e_lenSetZL, e_kyI, e_kyS, Nat.reduceAdd, Nat.zero_add, List.length_cons, List.length_nil, List.length_map, Nat.reduceLeDiff, and_true, true_and, if_true, ite_true, decide_eq_true_eq, Bool.not_eq_true, Bool.false_eq_true, if_false, ite_false, ↓reduceIte, Int.reduceToNat, Int.reducePow, ne_eq, q_okI, q_okB, q_okN, q_okS, q_okL, q_okT, q_oks0, q_oks1, q_eqII, q_eqBB, q_eqSS, q_eqLL, q_eqTT, q_eqNN, q_eqNI, q_eqIN, q_eqs0, q_eqs1, Bool.true_and, Bool.and_true, beq_iff_eq, reduceCtorEq, wipeE, List.set_cons_zero, List.set_cons_succ, List.set_nil, Bool.not_true, Bool.not_false, List.getElem?_cons_zero, List.getElem?_cons_succ])
  unfold foldR tupR at h
  by_cases h1 : a < 2 * w ∧ 2 * w < b
  · rw [if_pos h1]
    rw [if_pos h1] at h
    (try simp only [BEq.rfl, ↓e_v0, ↓e_vs, ↓e_c, ↓e_op, ↓e_un, ↓e_test, ↓e_testK, ↓e_tru, ↓e_truL, ↓e_truT, ↓e_truB, ↓e_truI, ↓e_truN, ↓e_truS, ↓e_not, ↓e_and, ↓e_or, ↓e_andv, ↓e_orv, ↓e_notv, ↓e_andK, ↓e_orK, ↓e_notK, ↓e_if, ↓e_nil, ↓e_cons, ↓e_tup, ↓e_lst, ↓e_new, ↓e_call, ↓e_callK, ↓e_drop, ↓e_ret, ↓e_retN, ↓e_pass, ↓e_ifS, ↓e_g0, ↓e_gs, ↓e_gnil, ↓e_gcons, ↓e_gtup, ↓e_asg, ↓e_par, ↓e_parK, ↓e_par3, ↓e_par3K, ↓e_chain, ↓e_chK, ↓e_no, ↓e_some, ↓e_someK, ↓e_cut, ↓e_b, ↓e_iter, ↓e_iterL, ↓e_iterT, ↓e_iterS, ↓e_rng1, ↓e_rng1K, ↓e_rng2, ↓e_rng2K, ↓e_rng3, ↓e_rng3K, ↓e_enum, ↓e_enumL, ↓e_enumT, ↓e_zip, ↓e_zipL, ↓e_zipT, ↓e_zipM, ↓e_zipMK, ↓e_zipS, ↓e_zipSK, ↓e_for, ↓e_lc, ↓e_lcNew, ↓e_forN, ↓e_forC, ↓e_lcN, ↓e_lcC, ↓e_srcN, ↓e_srcC, ↓e_meth, ↓e_isL, ↓e_sub, ↓e_aug, ↓e_augK, ↓e_isi, ↓e_yes, ↓e_bits, ↓e_bitsK, ↓e_cLast, ↓e_cLink, ↓e_cK, ↓e_cNext, ↓e_testCh, ↓e_addI, ↓e_addB, ↓e_addS, ↓e_addT, ↓e_addL, ↓e_subI, ↓e_mulI, ↓e_mulT, ↓e_mulL, ↓e_divI, ↓e_modI, ↓e_powI, ↓e_negI, ↓e_iadd, ↓e_cmpI, ↓e_eq, ↓e_ne, ↓e_isn, ↓e_isnn, ↓e_isb, ↓e_ixL, ↓e_ixKL, ↓e_ixT, ↓e_cutL, ↓e_cutKL, ↓e_cutT, ↓e_lenL, ↓e_lenKL, ↓e_lenT, ↓e_abs, ↓e_intI, ↓e_intB, ↓e_max2, ↓e_min2, ↓e_listL, ↓e_listT, ↓e_listNL, ↓e_listNT, ↓e_tupL, ↓e_tupT, ↓e_sum1T, ↓e_sum1L, ↓e_max1T, ↓e_max1L, ↓e_drI, ↓e_drB, ↓e_drS, ↓e_drN, ↓e_drL, ↓e_drT, ↓e_seq, ↓e_back, ↓e_backL, ↓e_backT, ↓e_sortedL, ↓e_sortedNL, ↓e_divmod, ↓e_lr1, ↓e_lr1K, ↓e_lr2, ↓e_lr2K, ↓e_lr3, ↓e_lr3K, ↓e_revR1, ↓e_revR1K, ↓e_srtSet, ↓e_unlL, ↓e_inL, ↓e_inKL, ↓e_inT, ↓e_inFlat, ↓e_drK, ↓e_srtSetL, ↓e_lenSet, ↓e_lenSetL, ↓e_enumF, ↓e_enumFT, ↓e_reprL, ↓e_reprT, ↓e_reprI, ↓e_reprB, ↓e_reprN, ↓e_reprS, ↓e_strI, ↓e_isub, ↓e_strB, ↓e_addBI, ↓e_subBI, ↓e_subIB, ↓e_drG, ↓e_dnew, ↓e_dgetF, ↓e_dget1, ↓e_dget2, ↓e_dsetdS, ↓e_dgPut, ↓e_lenSetZ, ↓e_lenSetZL, e_kyI, e_kyS, Nat.reduceAdd, Nat.zero_add, List.length_cons, List.length_nil, List.length_map, Nat.reduceLeDiff, and_true, true_and, if_true, ite_true, decide_eq_true_eq, Bool.not_eq_true, Bool.false_eq_true, if_false, ite_false, ↓reduceIte, Int.reduceToNat, Int.reducePow, ne_eq, q_okI, q_okB, q_okN, q_okS, q_okL, q_okT, q_oks0, q_oks1, q_eqII, q_eqBB, q_eqSS, q_eqLL, q_eqTT, q_eqNN, q_eqNI, q_eqIN, q_eqs0, q_eqs1, Bool.true_and, Bool.and_true, beq_iff_eq, reduceCtorEq, wipeE, List.set_cons_zero, List.set_cons_succ, List.set_nil, Bool.not_true, Bool.not_false, List.getElem?_cons_zero, List.getElem?_cons_succ])
    exact ⟨mul2 _, mul2 _, h⟩
  · rw [if_neg h1]
    rw [if_neg h1] at h
    refine ⟨mul2 _, ?_⟩
    by_cases h2 : b < 2 * w
    · rw [if_pos (by simpa using h2)]
      rw [if_pos h2] at h
      exact ⟨mul2 _, mul2 _, h⟩
    · rw [if_neg (by simpa using h2)]
      rw [if_neg h2] at h
      exact ⟨mul2 _, mul2 _, h⟩
def b1_behind : DS :=
    (dAsg (dCall sp_folded (dCons (dVar 0) (dCons (dVar 2) dNil))) (dgName 0))
def t_behind : DS :=
    (dSeq (dFor (dIter (dVar 1)) (dgName 2) (b1_behind))
    (dRet (dTup (dCons (dOp ixD (dVar 0) (dC (.int 0))) (dCons (dOp ixD (dVar 0) (dC (.int 1))) dNil)))))
theorem st_behind (a0 a1 : D) : startD N_behind [a0, a1] = [some a0, some a1, none] := rfl
theorem behind_loop (rt : DK) (a1 : Option D) (st : Sto) (kk : DL.Env → Sto → Prop) : ∀ (ws : List Int) (r : Int × Int) (v2 : Option D),
    (∀ u2, kk [some (tupR (foldsR r ws)), a1, u2] st) → goFor [] (dgName 2) b1_behind ⟨kk, rt⟩ (ws.map D.int) [some (tupR r), a1, v2] st
  | [], r, v2, h => ⟨trivial, h v2⟩
  | w :: ws, r, v2, h => by
    simp only [List.map_cons]
    rw [e_forC]
    refine ⟨trivial, ?_⟩
    simp only [b1_behind]
    (try simp only [BEq.rfl, ↓e_v0, ↓e_vs, ↓e_c, ↓e_op, ↓e_un, ↓e_test, ↓e_testK, ↓e_tru, ↓e_truL, ↓e_truT, ↓e_truB, ↓e_truI, ↓e_truN, ↓e_truS, ↓e_not, ↓e_and, ↓e_or, ↓e_andv, ↓e_orv, ↓e_notv, ↓e_andK, ↓e_orK, ↓e_notK, ↓e_if, ↓e_nil, ↓e_cons, ↓e_tup, ↓e_lst, ↓e_new, ↓e_call, ↓e_callK, ↓e_drop, ↓e_ret, ↓e_retN, ↓e_pass, ↓e_ifS, ↓e_g0, ↓e_gs, ↓e_gnil, ↓e_gcons, ↓e_gtup, ↓e_asg, ↓e_par, ↓e_parK, ↓e_par3, ↓e_par3K, ↓e_chain, ↓e_chK, ↓e_no, ↓e_some, ↓e_someK, ↓e_cut, ↓e_b, ↓e_iter, ↓e_iterL, ↓e_iterT, ↓e_iterS, ↓e_rng1, ↓e_rng1K, ↓e_rng2, ↓e_rng2K, ↓e_rng3, ↓e_rng3K, ↓e_enum, ↓e_enumL, ↓e_enumT, ↓e_zip, ↓e_zipL, ↓e_zipT, ↓e_zipM, ↓e_zipMK, ↓e_zipS, ↓e_zipSK, ↓e_for, ↓e_lc, ↓e_lcNew, ↓e_forN, ↓e_forC, ↓e_lcN, ↓e_lcC, ↓e_srcN, ↓e_srcC, ↓e_meth, ↓e_isL, ↓e_sub, ↓e_aug, ↓e_augK, ↓e_isi, ↓e_yes, ↓e_bits, ↓e_bitsK, ↓e_cLast, ↓e_cLink, ↓e_cK, ↓e_cNext, ↓e_testCh, ↓e_addI, ↓e_addB, ↓e_addS, ↓e_addT, ↓e_addL, ↓e_subI, ↓e_mulI, ↓e_mulT, ↓e_mulL, ↓e_divI, ↓e_modI, ↓e_powI, ↓e_negI, ↓e_iadd, ↓e_cmpI, ↓e_eq, ↓e_ne, ↓e_isn, ↓e_isnn, ↓e_isb, ↓e_ixL, ↓e_ixKL, ↓e_ixT, ↓e_cutL, ↓e_cutKL, ↓e_cutT, ↓e_lenL, ↓e_lenKL, ↓e_lenT, ↓e_abs, ↓e_intI, ↓e_intB, ↓e_max2, ↓e_min2, ↓e_listL, ↓e_listT, ↓e_listNL, ↓e_listNT, ↓e_tupL, ↓e_tupT, ↓e_sum1T, ↓e_sum1L, ↓e_max1T, ↓e_max1L, ↓e_drI, ↓e_drB, ↓e_drS, ↓e_drN, ↓e_drL, ↓e_drT, ↓e_seq, ↓e_back, ↓e_backL, ↓e_backT, ↓e_sortedL, ↓e_sortedNL, ↓e_divmod, ↓e_lr1, ↓e_lr1K, ↓e_lr2, ↓e_lr2K, ↓e_lr3, ↓e_lr3K, ↓e_revR1, ↓e_revR1K, ↓e_srtSet, ↓e_unlL, ↓e_inL, ↓e_inKL, ↓e_inT, ↓e_inFlat, ↓e_drK, ↓e_srtSetL, ↓e_lenSet, ↓e_lenSetL, ↓e_enumF, ↓e_enumFT, ↓e_reprL, ↓e_reprT, ↓e_reprI, ↓e_reprB, ↓e_reprN, ↓e_reprS, ↓e_strI, ↓e_isub, ↓e_strB, ↓e_addBI, ↓e_subBI, ↓e_subIB, ↓e_drG, ↓e_dnew, ↓e_dgetF, ↓e_dget1, ↓e_dget2, ↓e_dsetdS, ↓e_dgPut, ↓e_lenSetZ, ↓e_lenSetZL, e_kyI, e_kyS, Nat.reduceAdd, Nat.zero_add, List.length_cons, List.length_nil, List.length_map, Nat.reduceLeDiff, and_true, true_and, if_true, ite_true, decide_eq_true_eq, Bool.not_eq_true, Bool.false_eq_true, if_false, ite_false, ↓reduceIte, Int.reduceToNat, Int.reducePow, ne_eq, q_okI, q_okB, q_okN, q_okS, q_okL, q_okT, q_oks0, q_oks1, q_eqII, q_eqBB, q_eqSS, q_eqLL, q_eqTT, q_eqNN, q_eqNI, q_eqIN, q_eqs0, q_eqs1, Bool.true_and, Bool.and_true, beq_iff_eq, reduceCtorEq, wipeE, List.set_cons_zero, List.set_cons_succ, List.set_nil, Bool.not_true, Bool.not_false, List.getElem?_cons_zero, List.getElem?_cons_succ])
    exact ⟨r, w, rfl, behind_loop rt a1 st kk ws (foldR r w) _ h⟩
def sp_behind : SpD := fun ds st kk => ∃ (r : Int × Int) (ws : List Int), ds = [tupR r, .tup (ws.map D.int)] ∧ kk (tupR (foldsR r ws)) st
theorem len_behind (ds : List D) (st : Sto) (kk : DK) (h : sp_behind ds st kk) : ds.length = 2 := by
  obtain ⟨r, w, rfl, _⟩ := h
  rfl
theorem p_behind : BodyD false N_behind sp_behind t_behind := by
  rintro ds st kk ⟨r, ws, rfl, h⟩
  rw [st_behind]
  simp only [t_behind]
  (try simp only [BEq.rfl, ↓e_v0, ↓e_vs, ↓e_c, ↓e_op, ↓e_un, ↓e_test, ↓e_testK, ↓e_tru, ↓e_truL, ↓e_truT, ↓e_truB, ↓e_truI, ↓e_truN, ↓e_truS, ↓e_not, ↓e_and, ↓e_or, ↓e_andv, ↓e_orv, ↓e_notv, ↓e_andK, ↓e_orK, ↓e_notK, ↓e_if, ↓e_nil, ↓e_cons, ↓e_tup, ↓e_lst, ↓e_new, ↓e_call, ↓e_callK, ↓e_drop, ↓e_ret, ↓e_retN, ↓e_pass, ↓e_ifS, ↓e_g0, ↓e_gs, ↓e_gnil, ↓e_gcons, ↓e_gtup, ↓e_asg, ↓e_par, ↓e_parK, ↓e_par3, ↓e_par3K, ↓e_chain, ↓e_chK, ↓e_no, ↓e_some, ↓e_someK, ↓e_cut, ↓e_b, ↓e_iter, ↓e_iterL, ↓e_iterT, ↓e_iterS, ↓e_rng1, ↓e_rng1K, ↓e_rng2, ↓e_rng2K, ↓e_rng3, ↓e_rng3K, ↓e_enum, ↓e_enumL, ↓e_enumT, ↓e_zip, ↓e_zipL, ↓e_zipT, ↓e_zipM, ↓e_zipMK, ↓e_zipS, ↓e_zipSK, ↓e_for, ↓e_lc, ↓e_lcNew, ↓e_forN, ↓e_forC, ↓e_lcN, ↓e_lcC, ↓e_srcN, ↓e_srcC, ↓e_meth, ↓e_isL, ↓e_sub, ↓e_aug, ↓e_augK, ↓e_isi, ↓e_yes, ↓e_bits, ↓e_bitsK, ↓e_cLast, ↓e_cLink, ↓e_cK, ↓e_cNext, ↓e_testCh, ↓e_addI, ↓e_addB, ↓e_addS, ↓e_addT, ↓e_addL, ↓e_subI, ↓e_mulI, ↓e_mulT, ↓e_mulL, ↓e_divI, ↓e_modI, ↓e_powI, ↓e_negI, ↓e_iadd, ↓e_cmpI, ↓e_eq, ↓e_ne, ↓e_isn, ↓e_isnn, ↓e_isb, ↓e_ixL, ↓e_ixKL, ↓e_ixT, ↓e_cutL, ↓e_cutKL, ↓e_cutT, ↓e_lenL, ↓e_lenKL, ↓e_lenT, ↓e_abs, ↓e_intI, ↓e_intB, ↓e_max2, ↓e_min2, ↓e_listL, ↓e_listT, ↓e_listNL, ↓e_listNT, ↓e_tupL, ↓e_tupT, ↓e_sum1T, ↓e_sum1L, ↓e_max1T, ↓e_max1L, ↓e_drI, ↓e_drB, ↓e_drS, ↓e_drN, ↓e_drL, ↓e_drT, ↓e_seq, ↓e_back, ↓e_backL, ↓e_backT, ↓e_sortedL, ↓e_sortedNL, ↓e_divmod, ↓e_lr1, ↓e_lr1K, ↓e_lr2, ↓e_lr2K, ↓e_lr3, ↓e_lr3K, ↓e_revR1, ↓e_revR1K, ↓e_srtSet, ↓e_unlL, ↓e_inL, ↓e_inKL, ↓e_inT, ↓e_inFlat, ↓e_drK, ↓e_srtSetL, ↓e_lenSet, ↓e_lenSetL, ↓e_enumF, ↓e_enumFT, ↓e_reprL, ↓e_reprT, ↓e_reprI, ↓e_reprB, ↓e_reprN, ↓e_reprS, ↓e_strI, ↓e_isub, ↓e_strB, ↓e_addBI, ↓e_subBI, ↓e_subIB, ↓e_drG, ↓e_dnew, ↓e_dgetF, ↓e_dget1, ↓e_dget2, ↓e_dsetdS, ↓e_dgPut, ↓e_lenSetZ, ↓e_lenSetZL, e_kyI, e_kyS, Nat.reduceAdd, Nat.zero_add, List.length_cons, List.length_nil, List.length_map, Nat.reduceLeDiff, and_true, true_and, if_true, ite_true, decide_eq_true_eq, Bool.not_eq_true, Bool.false_eq_true, if_false, ite_false, ↓reduceIte, Int.reduceToNat, Int.reducePow, ne_eq, q_okI, q_okB, q_okN, q_okS, q_okL, q_okT, q_oks0, q_oks1, q_eqII, q_eqBB, q_eqSS, q_eqLL, q_eqTT, q_eqNN, q_eqNI, q_eqIN, q_eqs0, q_eqs1, Bool.true_and, Bool.and_true, beq_iff_eq, reduceCtorEq, wipeE, List.set_cons_zero, List.set_cons_succ, List.set_nil, Bool.not_true, Bool.not_false, List.getElem?_cons_zero, List.getElem?_cons_succ])
  refine fun hl => behind_loop _ _ st _ ws r _ fun u2 => ?_
  (try simp only [BEq.rfl, ↓e_v0, ↓e_vs, ↓e_c, ↓e_op, ↓e_un, ↓e_test, ↓e_testK, ↓e_tru, ↓e_truL, ↓e_truT, ↓e_truB, ↓e_truI, ↓e_truN, ↓e_truS, ↓e_not, ↓e_and, ↓e_or, ↓e_andv, ↓e_orv, ↓e_notv, ↓e_andK, ↓e_orK, ↓e_notK, ↓e_if, ↓e_nil, ↓e_cons, ↓e_tup, ↓e_lst, ↓e_new, ↓e_call, ↓e_callK, ↓e_drop, ↓e_ret, ↓e_retN, ↓e_pass, ↓e_ifS, ↓e_g0, ↓e_gs, ↓e_gnil, ↓e_gcons, ↓e_gtup, ↓e_asg, ↓e_par, ↓e_parK, ↓e_par3, ↓e_par3K, ↓e_chain, ↓e_chK, ↓e_no, ↓e_some, ↓e_someK, ↓e_cut, ↓e_b, ↓e_iter, ↓e_iterL, ↓e_iterT, ↓e_iterS, ↓e_rng1, ↓e_rng1K, ↓e_rng2, ↓e_rng2K, ↓e_rng3, ↓e_rng3K, ↓e_enum, ↓e_enumL, ↓e_enumT, ↓e_zip, ↓e_zipL, ↓e_zipT, ↓e_zipM, ↓e_zipMK, ↓e_zipS, ↓e_zipSK, ↓e_for, ↓e_lc, ↓e_lcNew, ↓e_forN, ↓e_forC, ↓e_lcN, ↓e_lcC, ↓e_srcN, ↓e_srcC, ↓e_meth, ↓e_isL, ↓e_sub, ↓e_aug, ↓e_augK, ↓e_isi, ↓e_yes, ↓e_bits, ↓e_bitsK, ↓e_cLast, ↓e_cLink, ↓e_cK, ↓e_cNext, ↓e_testCh, ↓e_addI, ↓e_addB, ↓e_addS, ↓e_addT, ↓e_addL, ↓e_subI, ↓e_mulI, ↓e_mulT, ↓e_mulL, ↓e_divI, ↓e_modI, ↓e_powI, ↓e_negI, ↓e_iadd, ↓e_cmpI, ↓e_eq, ↓e_ne, ↓e_isn, ↓e_isnn, ↓e_isb, ↓e_ixL, ↓e_ixKL, ↓e_ixT, ↓e_cutL, ↓e_cutKL, ↓e_cutT, ↓e_lenL, ↓e_lenKL, ↓e_lenT, ↓e_abs, ↓e_intI, ↓e_intB, ↓e_max2, ↓e_min2, ↓e_listL, ↓e_listT, ↓e_listNL, ↓e_listNT, ↓e_tupL, ↓e_tupT, ↓e_sum1T, ↓e_sum1L, ↓e_max1T, ↓e_max1L, ↓e_drI, ↓e_drB, ↓e_drS, ↓e_drN, ↓e_drL, ↓e_drT, ↓e_seq, ↓e_back, ↓e_backL, ↓e_backT, ↓e_sortedL, ↓e_sortedNL, ↓e_divmod, ↓e_lr1, ↓e_lr1K, ↓e_lr2, ↓e_lr2K, ↓e_lr3, ↓e_lr3K, ↓e_revR1, ↓e_revR1K, ↓e_srtSet, ↓e_unlL, ↓e_inL, ↓e_inKL, ↓e_inT, ↓e_inFlat, ↓e_drK, ↓e_srtSetL, ↓e_lenSet, ↓e_lenSetL, ↓e_enumF, ↓e_enumFT, ↓e_reprL, ↓e_reprT, ↓e_reprI, ↓e_reprB, ↓e_reprN, ↓e_reprS, ↓e_strI, ↓e_isub, ↓e_strB, ↓e_addBI, ↓e_subBI, ↓e_subIB, ↓e_drG, ↓e_dnew, ↓e_dgetF, ↓e_dget1, ↓e_dget2, ↓e_dsetdS, ↓e_dgPut, ↓e_lenSetZ, ↓e_lenSetZL, e_kyI, e_kyS, Nat.reduceAdd, Nat.zero_add, List.length_cons, List.length_nil, List.length_map, Nat.reduceLeDiff, and_true, true_and, if_true, ite_true, decide_eq_true_eq, Bool.not_eq_true, Bool.false_eq_true, if_false, ite_false, ↓reduceIte, Int.reduceToNat, Int.reducePow, ne_eq, q_okI, q_okB, q_okN, q_okS, q_okL, q_okT, q_oks0, q_oks1, q_eqII, q_eqBB, q_eqSS, q_eqLL, q_eqTT, q_eqNN, q_eqNI, q_eqIN, q_eqs0, q_eqs1, Bool.true_and, Bool.and_true, beq_iff_eq, reduceCtorEq, wipeE, List.set_cons_zero, List.set_cons_succ, List.set_nil, Bool.not_true, Bool.not_false, List.getElem?_cons_zero, List.getElem?_cons_succ, tupR, p0, p1, Option.some.injEq, exists_eq_left'])
  exact h
def b1_is_whole : DS :=
    (dSeq (dIfS (dTru (dCall sp_parts (dCons (dVar 2) (dCons (dVar 3) dNil)))) (dRet (dC (.bl false))) dPass)
    (dAsg (dCall sp_folded (dCons (dVar 2) (dCons (dVar 3) dNil))) (dgName 2)))
def t_is_whole : DS :=
    (dSeq (dAsg (dVar 0) (dgName 2))
    (dSeq (dFor (dIter (dVar 1)) (dgName 3) (b1_is_whole))
    (dRet (dC (.bl true)))))
theorem st_is_whole (a0 a1 : D) : startD N_is_whole [a0, a1] = [some a0, some a1, none, none] := rfl
theorem whole_loop (kk : DK) (a0 a1 : Option D) (st : Sto) : ∀ (ws : List Int) (r : Int × Int) (v3 : Option D),
    kk (.bl (wholeR r ws)) st → goFor [] (dgName 3) b1_is_whole ⟨fun _ s => kk (.bl true) s, fun d s => kk d s⟩ (ws.map D.int) [a0, a1, some (tupR r), v3] st
  | [], r, v3, h => ⟨trivial, h⟩
  | w :: ws, r, v3, h => by
    simp only [List.map_cons]
    rw [e_forC]
    refine ⟨trivial, ?_⟩
    simp only [b1_is_whole]
    refine seq_by fun nx hnx => ?_
    (try simp only [BEq.rfl, ↓e_v0, ↓e_vs, ↓e_c, ↓e_op, ↓e_un, ↓e_test, ↓e_testK, ↓e_tru, ↓e_truL, ↓e_truT, ↓e_truB, ↓e_truI, ↓e_truN, ↓e_truS, ↓e_not, ↓e_and, ↓e_or, ↓e_andv, ↓e_orv, ↓e_notv, ↓e_andK, ↓e_orK, ↓e_notK, ↓e_if, ↓e_nil, ↓e_cons, ↓e_tup, ↓e_lst, ↓e_new, ↓e_call, ↓e_callK, ↓e_drop, ↓e_ret, ↓e_retN, ↓e_pass, ↓e_ifS, ↓e_g0, ↓e_gs, ↓e_gnil, ↓e_gcons, ↓e_gtup, ↓e_asg, ↓e_par, ↓e_parK, ↓e_par3, ↓e_par3K, ↓e_chain, ↓e_chK, ↓e_no, ↓e_some, ↓e_someK, ↓e_cut, ↓e_b, ↓e_iter, ↓e_iterL, ↓e_iterT, ↓e_iterS, ↓e_rng1, ↓e_rng1K, ↓e_rng2, ↓e_rng2K, ↓e_rng3, ↓e_rng3K, ↓e_enum, ↓e_enumL, ↓e_enumT, ↓e_zip, ↓e_zipL, ↓e_zipT, ↓e_zipM, ↓e_zipMK, ↓e_zipS, ↓e_zipSK, ↓e_for, ↓e_lc, ↓e_lcNew, ↓e_forN, ↓e_forC, ↓e_lcN, ↓e_lcC, ↓e_srcN, ↓e_srcC, ↓e_meth, ↓e_isL, ↓e_sub, ↓e_aug, ↓e_augK, ↓e_isi, ↓e_yes, ↓e_bits, ↓e_bitsK, ↓e_cLast, ↓e_cLink, ↓e_cK, ↓e_cNext, ↓e_testCh, ↓e_addI, ↓e_addB, ↓e_addS, ↓e_addT, ↓e_addL, ↓e_subI, ↓e_mulI, ↓e_mulT, ↓e_mulL, ↓e_divI, ↓e_modI, ↓e_powI, ↓e_negI, ↓e_iadd, ↓e_cmpI, ↓e_eq, ↓e_ne, ↓e_isn, ↓e_isnn, ↓e_isb, ↓e_ixL, ↓e_ixKL, ↓e_ixT, ↓e_cutL, ↓e_cutKL, ↓e_cutT, ↓e_lenL, ↓e_lenKL, ↓e_lenT, ↓e_abs, ↓e_intI, ↓e_intB, ↓e_max2, ↓e_min2, ↓e_listL, ↓e_listT, ↓e_listNL, ↓e_listNT, ↓e_tupL, ↓e_tupT, ↓e_sum1T, ↓e_sum1L, ↓e_max1T, ↓e_max1L, ↓e_drI, ↓e_drB, ↓e_drS, ↓e_drN, ↓e_drL, ↓e_drT, ↓e_seq, ↓e_back, ↓e_backL, ↓e_backT, ↓e_sortedL, ↓e_sortedNL, ↓e_divmod, ↓e_lr1, ↓e_lr1K, ↓e_lr2, ↓e_lr2K, ↓e_lr3, ↓e_lr3K, ↓e_revR1, ↓e_revR1K, ↓e_srtSet, ↓e_unlL, ↓e_inL, ↓e_inKL, ↓e_inT, ↓e_inFlat, ↓e_drK, ↓e_srtSetL, ↓e_lenSet, ↓e_lenSetL, ↓e_enumF, ↓e_enumFT, ↓e_reprL, ↓e_reprT, ↓e_reprI, ↓e_reprB, ↓e_reprN, ↓e_reprS, ↓e_strI, ↓e_isub, ↓e_strB, ↓e_addBI, ↓e_subBI, ↓e_subIB, ↓e_drG, ↓e_dnew, ↓e_dgetF, ↓e_dget1, ↓e_dget2, ↓e_dsetdS, ↓e_dgPut, ↓e_lenSetZ, ↓e_lenSetZL, e_kyI, e_kyS, Nat.reduceAdd, Nat.zero_add, List.length_cons, List.length_nil, List.length_map, Nat.reduceLeDiff, and_true, true_and, if_true, ite_true, decide_eq_true_eq, Bool.not_eq_true, Bool.false_eq_true, if_false, ite_false, ↓reduceIte, Int.reduceToNat, Int.reducePow, ne_eq, q_okI, q_okB, q_okN, q_okS, q_okL, q_okT, q_oks0, q_oks1, q_eqII, q_eqBB, q_eqSS, q_eqLL, q_eqTT, q_eqNN, q_eqNI, q_eqIN, q_eqs0, q_eqs1, Bool.true_and, Bool.and_true, beq_iff_eq, reduceCtorEq, wipeE, List.set_cons_zero, List.set_cons_succ, List.set_nil, Bool.not_true, Bool.not_false, List.getElem?_cons_zero, List.getElem?_cons_succ])
    refine ⟨r.1, r.2, w, rfl, ?_⟩
    (try simp only [BEq.rfl, ↓e_v0, ↓e_vs, ↓e_c, ↓e_op, ↓e_un, ↓e_test, ↓e_testK, ↓e_tru, ↓e_truL, ↓e_truT, ↓e_truB, ↓e_truI, ↓e_truN, ↓e_truS, ↓e_not, ↓e_and, ↓e_or, ↓e_andv, ↓e_orv, ↓e_notv, ↓e_andK, ↓e_orK, ↓e_notK, ↓e_if, ↓e_nil, ↓e_cons, ↓e_tup, ↓e_lst, ↓e_new, ↓e_call, ↓e_callK, ↓e_drop, ↓e_ret, ↓e_retN, ↓e_pass, ↓e_ifS, ↓e_g0, ↓e_gs, ↓e_gnil, ↓e_gcons, ↓e_gtup, ↓e_asg, ↓e_par, ↓e_parK, ↓e_par3, ↓e_par3K, ↓e_chain, ↓e_chK, ↓e_no, ↓e_some, ↓e_someK, ↓e_cut, ↓e_b, ↓e_iter, ↓e_iterL, ↓e_iterT, ↓e_iterS, ↓e_rng1, ↓e_rng1K, ↓e_rng2, ↓e_rng2K, ↓e_rng3, ↓e_rng3K, ↓e_enum, ↓e_enumL, ↓e_enumT, ↓e_zip, ↓e_zipL, ↓e_zipT, ↓e_zipM, ↓e_zipMK, ↓e_zipS, ↓e_zipSK, ↓e_for, ↓e_lc, ↓e_lcNew, ↓e_forN, ↓e_forC, ↓e_lcN, ↓e_lcC, ↓e_srcN, ↓e_srcC, ↓e_meth, ↓e_isL, ↓e_sub, ↓e_aug, ↓e_augK, ↓e_isi, ↓e_yes, ↓e_bits, ↓e_bitsK, ↓e_cLast, ↓e_cLink, ↓e_cK, ↓e_cNext, ↓e_testCh, ↓e_addI, ↓e_addB, ↓e_addS, ↓e_addT, ↓e_addL, ↓e_subI, ↓e_mulI, ↓e_mulT, ↓e_mulL, ↓e_divI, ↓e_modI, ↓e_powI, ↓e_negI, ↓e_iadd, ↓e_cmpI, ↓e_eq, ↓e_ne, ↓e_isn, ↓e_isnn, ↓e_isb, ↓e_ixL, ↓e_ixKL, ↓e_ixT, ↓e_cutL, ↓e_cutKL, ↓e_cutT, ↓e_lenL, ↓e_lenKL, ↓e_lenT, ↓e_abs, ↓e_intI, ↓e_intB, ↓e_max2, ↓e_min2, ↓e_listL, ↓e_listT, ↓e_listNL, ↓e_listNT, ↓e_tupL, ↓e_tupT, ↓e_sum1T, ↓e_sum1L, ↓e_max1T, ↓e_max1L, ↓e_drI, ↓e_drB, ↓e_drS, ↓e_drN, ↓e_drL, ↓e_drT, ↓e_seq, ↓e_back, ↓e_backL, ↓e_backT, ↓e_sortedL, ↓e_sortedNL, ↓e_divmod, ↓e_lr1, ↓e_lr1K, ↓e_lr2, ↓e_lr2K, ↓e_lr3, ↓e_lr3K, ↓e_revR1, ↓e_revR1K, ↓e_srtSet, ↓e_unlL, ↓e_inL, ↓e_inKL, ↓e_inT, ↓e_inFlat, ↓e_drK, ↓e_srtSetL, ↓e_lenSet, ↓e_lenSetL, ↓e_enumF, ↓e_enumFT, ↓e_reprL, ↓e_reprT, ↓e_reprI, ↓e_reprB, ↓e_reprN, ↓e_reprS, ↓e_strI, ↓e_isub, ↓e_strB, ↓e_addBI, ↓e_subBI, ↓e_subIB, ↓e_drG, ↓e_dnew, ↓e_dgetF, ↓e_dget1, ↓e_dget2, ↓e_dsetdS, ↓e_dgPut, ↓e_lenSetZ, ↓e_lenSetZL, e_kyI, e_kyS, Nat.reduceAdd, Nat.zero_add, List.length_cons, List.length_nil, List.length_map, Nat.reduceLeDiff, and_true, true_and, if_true, ite_true, decide_eq_true_eq, Bool.not_eq_true, Bool.false_eq_true, if_false, ite_false, ↓reduceIte, Int.reduceToNat, Int.reducePow, ne_eq, q_okI, q_okB, q_okN, q_okS, q_okL, q_okT, q_oks0, q_oks1, q_eqII, q_eqBB, q_eqSS, q_eqLL, q_eqTT, q_eqNN, q_eqNI, q_eqIN, q_eqs0, q_eqs1, Bool.true_and, Bool.and_true, beq_iff_eq, reduceCtorEq, wipeE, List.set_cons_zero, List.set_cons_succ, List.set_nil, Bool.not_true, Bool.not_false, List.getElem?_cons_zero, List.getElem?_cons_succ])
    unfold wholeR at h
    split
    · rename_i hc
      rw [if_pos hc] at h
      exact h
    · rename_i hc
      rw [if_neg hc] at h
      rw [← hnx]
      (try simp only [BEq.rfl, ↓e_v0, ↓e_vs, ↓e_c, ↓e_op, ↓e_un, ↓e_test, ↓e_testK, ↓e_tru, ↓e_truL, ↓e_truT, ↓e_truB, ↓e_truI, ↓e_truN, ↓e_truS, ↓e_not, ↓e_and, ↓e_or, ↓e_andv, ↓e_orv, ↓e_notv, ↓e_andK, ↓e_orK, ↓e_notK, ↓e_if, ↓e_nil, ↓e_cons, ↓e_tup, ↓e_lst, ↓e_new, ↓e_call, ↓e_callK, ↓e_drop, ↓e_ret, ↓e_retN, ↓e_pass, ↓e_ifS, ↓e_g0, ↓e_gs, ↓e_gnil, ↓e_gcons, ↓e_gtup, ↓e_asg, ↓e_par, ↓e_parK, ↓e_par3, ↓e_par3K, ↓e_chain, ↓e_chK, ↓e_no, ↓e_some, ↓e_someK, ↓e_cut, ↓e_b, ↓e_iter, ↓e_iterL, ↓e_iterT, ↓e_iterS, ↓e_rng1, ↓e_rng1K, ↓e_rng2, ↓e_rng2K, ↓e_rng3, ↓e_rng3K, ↓e_enum, ↓e_enumL, ↓e_enumT, ↓e_zip, ↓e_zipL, ↓e_zipT, ↓e_zipM, ↓e_zipMK, ↓e_zipS, ↓e_zipSK, ↓e_for, ↓e_lc, ↓e_lcNew, ↓e_forN, ↓e_forC, ↓e_lcN, ↓e_lcC, ↓e_srcN, ↓e_srcC, ↓e_meth, ↓e_isL, ↓e_sub, ↓e_aug, ↓e_augK, ↓e_isi, ↓e_yes, ↓e_bits, ↓e_bitsK, ↓e_cLast, ↓e_cLink, ↓e_cK, ↓e_cNext, ↓e_testCh, ↓e_addI, ↓e_addB, ↓e_addS, ↓e_addT, ↓e_addL, ↓e_subI, ↓e_mulI, ↓e_mulT, ↓e_mulL, ↓e_divI, ↓e_modI, ↓e_powI, ↓e_negI, ↓e_iadd, ↓e_cmpI, ↓e_eq, ↓e_ne, ↓e_isn, ↓e_isnn, ↓e_isb, ↓e_ixL, ↓e_ixKL, ↓e_ixT, ↓e_cutL, ↓e_cutKL, ↓e_cutT, ↓e_lenL, ↓e_lenKL, ↓e_lenT, ↓e_abs, ↓e_intI, ↓e_intB, ↓e_max2, ↓e_min2, ↓e_listL, ↓e_listT, ↓e_listNL, ↓e_listNT, ↓e_tupL, ↓e_tupT, ↓e_sum1T, ↓e_sum1L, ↓e_max1T, ↓e_max1L, ↓e_drI, ↓e_drB, ↓e_drS, ↓e_drN, ↓e_drL, ↓e_drT, ↓e_seq, ↓e_back, ↓e_backL, ↓e_backT, ↓e_sortedL, ↓e_sortedNL, ↓e_divmod, ↓e_lr1, ↓e_lr1K, ↓e_lr2, ↓e_lr2K, ↓e_lr3, ↓e_lr3K, ↓e_revR1, ↓e_revR1K, ↓e_srtSet, ↓e_unlL, ↓e_inL, ↓e_inKL, ↓e_inT, ↓e_inFlat, ↓e_drK, ↓e_srtSetL, ↓e_lenSet, ↓e_lenSetL, ↓e_enumF, ↓e_enumFT, ↓e_reprL, ↓e_reprT, ↓e_reprI, ↓e_reprB, ↓e_reprN, ↓e_reprS, ↓e_strI, ↓e_isub, ↓e_strB, ↓e_addBI, ↓e_subBI, ↓e_subIB, ↓e_drG, ↓e_dnew, ↓e_dgetF, ↓e_dget1, ↓e_dget2, ↓e_dsetdS, ↓e_dgPut, ↓e_lenSetZ, ↓e_lenSetZL, e_kyI, e_kyS, Nat.reduceAdd, Nat.zero_add, List.length_cons, List.length_nil, List.length_map, Nat.reduceLeDiff, and_true, true_and, if_true, ite_true, decide_eq_true_eq, Bool.not_eq_true, Bool.false_eq_true, if_false, ite_false, ↓reduceIte, Int.reduceToNat, Int.reducePow, ne_eq, q_okI, q_okB, q_okN, q_okS, q_okL, q_okT, q_oks0, q_oks1, q_eqII, q_eqBB, q_eqSS, q_eqLL, q_eqTT, q_eqNN, q_eqNI, q_eqIN, q_eqs0, q_eqs1, Bool.true_and, Bool.and_true, beq_iff_eq, reduceCtorEq, wipeE, List.set_cons_zero, List.set_cons_succ, List.set_nil, Bool.not_true, Bool.not_false, List.getElem?_cons_zero, List.getElem?_cons_succ])
      exact ⟨r, w, rfl, whole_loop kk a0 a1 st ws (foldR r w) _ h⟩
def sp_is_whole : SpD := fun ds st kk => ∃ (r : Int × Int) (ws : List Int), ds = [tupR r, .tup (ws.map D.int)] ∧ kk (.bl (wholeR r ws)) st
theorem len_is_whole (ds : List D) (st : Sto) (kk : DK) (h : sp_is_whole ds st kk) : ds.length = 2 := by
  obtain ⟨r, w, rfl, _⟩ := h
  rfl
theorem p_is_whole : BodyD false N_is_whole sp_is_whole t_is_whole := by
  rintro ds st kk ⟨r, ws, rfl, h⟩
  rw [st_is_whole]
  simp only [t_is_whole]
  (try simp only [BEq.rfl, ↓e_v0, ↓e_vs, ↓e_c, ↓e_op, ↓e_un, ↓e_test, ↓e_testK, ↓e_tru, ↓e_truL, ↓e_truT, ↓e_truB, ↓e_truI, ↓e_truN, ↓e_truS, ↓e_not, ↓e_and, ↓e_or, ↓e_andv, ↓e_orv, ↓e_notv, ↓e_andK, ↓e_orK, ↓e_notK, ↓e_if, ↓e_nil, ↓e_cons, ↓e_tup, ↓e_lst, ↓e_new, ↓e_call, ↓e_callK, ↓e_drop, ↓e_ret, ↓e_retN, ↓e_pass, ↓e_ifS, ↓e_g0, ↓e_gs, ↓e_gnil, ↓e_gcons, ↓e_gtup, ↓e_asg, ↓e_par, ↓e_parK, ↓e_par3, ↓e_par3K, ↓e_chain, ↓e_chK, ↓e_no, ↓e_some, ↓e_someK, ↓e_cut, ↓e_b, ↓e_iter, ↓e_iterL, ↓e_iterT, ↓e_iterS, ↓e_rng1, ↓e_rng1K, ↓e_rng2, ↓e_rng2K, ↓e_rng3, ↓e_rng3K, ↓e_enum, ↓e_enumL, ↓e_enumT, ↓e_zip, ↓e_zipL, ↓e_zipT, ↓e_zipM, ↓e_zipMK, ↓e_zipS, ↓e_zipSK, ↓e_for, ↓e_lc, ↓e_lcNew, ↓e_forN, ↓e_forC, ↓e_lcN, ↓e_lcC, ↓e_srcN, ↓e_srcC, ↓e_meth, ↓e_isL, ↓e_sub, ↓e_aug, ↓e_augK, ↓e_isi, ↓e_yes, ↓e_bits, ↓e_bitsK, ↓e_cLast, ↓e_cLink, ↓e_cK, ↓e_cNext, ↓e_testCh, ↓e_addI, ↓e_addB, ↓e_addS, ↓e_addT, ↓e_addL, ↓e_subI, ↓e_mulI, ↓e_mulT, ↓e_mulL, ↓e_divI, ↓e_modI, ↓e_powI, ↓e_negI, ↓e_iadd, ↓e_cmpI, ↓e_eq, ↓e_ne, ↓e_isn, ↓e_isnn, ↓e_isb, ↓e_ixL, ↓e_ixKL, ↓e_ixT, ↓e_cutL, ↓e_cutKL, ↓e_cutT, ↓e_lenL, ↓e_lenKL, ↓e_lenT, ↓e_abs, ↓e_intI, ↓e_intB, ↓e_max2, ↓e_min2, ↓e_listL, ↓e_listT, ↓e_listNL, ↓e_listNT, ↓e_tupL, ↓e_tupT, ↓e_sum1T, ↓e_sum1L, ↓e_max1T, ↓e_max1L, ↓e_drI, ↓e_drB, ↓e_drS, ↓e_drN, ↓e_drL, ↓e_drT, ↓e_seq, ↓e_back, ↓e_backL, ↓e_backT, ↓e_sortedL, ↓e_sortedNL, ↓e_divmod, ↓e_lr1, ↓e_lr1K, ↓e_lr2, ↓e_lr2K, ↓e_lr3, ↓e_lr3K, ↓e_revR1, ↓e_revR1K, ↓e_srtSet, ↓e_unlL, ↓e_inL, ↓e_inKL, ↓e_inT, ↓e_inFlat, ↓e_drK, ↓e_srtSetL, ↓e_lenSet, ↓e_lenSetL, ↓e_enumF, ↓e_enumFT, ↓e_reprL, ↓e_reprT, ↓e_reprI, ↓e_reprB, ↓e_reprN, ↓e_reprS, ↓e_strI, ↓e_isub, ↓e_strB, ↓e_addBI, ↓e_subBI, ↓e_subIB, ↓e_drG, ↓e_dnew, ↓e_dgetF, ↓e_dget1, ↓e_dget2, ↓e_dsetdS, ↓e_dgPut, ↓e_lenSetZ, ↓e_lenSetZL, e_kyI, e_kyS, Nat.reduceAdd, Nat.zero_add, List.length_cons, List.length_nil, List.length_map, Nat.reduceLeDiff, and_true, true_and, if_true, ite_true, decide_eq_true_eq, Bool.not_eq_true, Bool.false_eq_true, if_false, ite_false, ↓reduceIte, Int.reduceToNat, Int.reducePow, ne_eq, q_okI, q_okB, q_okN, q_okS, q_okL, q_okT, q_oks0, q_oks1, q_eqII, q_eqBB, q_eqSS, q_eqLL, q_eqTT, q_eqNN, q_eqNI, q_eqIN, q_eqs0, q_eqs1, Bool.true_and, Bool.and_true, beq_iff_eq, reduceCtorEq, wipeE, List.set_cons_zero, List.set_cons_succ, List.set_nil, Bool.not_true, Bool.not_false, List.getElem?_cons_zero, List.getElem?_cons_succ])
  refine fun hl => ?_
  exact whole_loop _ _ _ st ws r _ h
def t__law_tape : DS :=
    (dSeq (dAsg (dIf (dTest (dOp (cmpI fun i j => decide (i < j)) (dVar 1) (dB bLen (dCons (dVar 0) dNil)))) (dOp ixD (dVar 0) (dVar 1)) (dC (.int 0))) (dgName 2))
    (dRet (dNew (dCons (dOp mulD (dB bAbs (dCons (dVar 2) dNil)) (dB bInt (dCons (dOp (cmpI fun i j => decide (j ≤ i)) (dB bAbs (dCons (dVar 2) dNil)) (dOp powD (dC (.int 10)) (dC (.int 18)))) dNil))) (dCons (dOp addD (dOp addD (dOp modD (dVar 2) (dC (.int 2305843009213693951))) (dOp mulD (dC (.int 39373)) (dVar 1))) (dC (.int 17))) (dCons (dC (.int 0)) dNil))))))
theorem st__law_tape (a0 a1 : D) : startD N__law_tape [a0, a1] = [some a0, some a1, none] := rfl
/-- a tape: n draws at most so far -/
def sp__law_tape : SpD := fun ds st kk => ∃ (cs : List Int) (k : Nat), ds = [.lst (cs.map D.int), .int k] ∧ k ≤ 1000 ∧ ∀ xs, Tape 0 xs → kk (.obj st.length) (st ++ [xs])
theorem len__law_tape (ds : List D) (st : Sto) (kk : DK) (h : sp__law_tape ds st kk) : ds.length = 2 := by
  obtain ⟨cs, k, rfl, _⟩ := h
  rfl
theorem atI_ints {cs : List Int} {k : Nat} (h : k < cs.length) : atI (cs.map D.int) (k : Int) = some (.int cs[k]) := by
  refine atI_nat ?_
  rw [List.getElem?_map, List.getElem?_eq_getElem h]
  rfl
theorem p__law_tape : BodyD false N__law_tape sp__law_tape t__law_tape := by
  rintro ds st kk ⟨cs, k, rfl, hk, h⟩
  rw [st__law_tape]
  simp only [t__law_tape]
  (try simp only [BEq.rfl, ↓e_v0, ↓e_vs, ↓e_c, ↓e_op, ↓e_un, ↓e_test, ↓e_testK, ↓e_tru, ↓e_truL, ↓e_truT, ↓e_truB, ↓e_truI, ↓e_truN, ↓e_truS, ↓e_not, ↓e_and, ↓e_or, ↓e_andv, ↓e_orv, ↓e_notv, ↓e_andK, ↓e_orK, ↓e_notK, ↓e_if, ↓e_nil, ↓e_cons, ↓e_tup, ↓e_lst, ↓e_new, ↓e_call, ↓e_callK, ↓e_drop, ↓e_ret, ↓e_retN, ↓e_pass, ↓e_ifS, ↓e_g0, ↓e_gs, ↓e_gnil, ↓e_gcons, ↓e_gtup, ↓e_asg, ↓e_par, ↓e_parK, ↓e_par3, ↓e_par3K, ↓e_chain, ↓e_chK, ↓e_no, ↓e_some, ↓e_someK, ↓e_cut, ↓e_b, ↓e_iter, ↓e_iterL, ↓e_iterT, ↓e_iterS, ↓e_rng1, ↓e_rng1K, ↓e_rng2, ↓e_rng2K, ↓e_rng3, ↓e_rng3K, ↓e_enum, ↓e_enumL, ↓e_enumT, ↓e_zip, ↓e_zipL, ↓e_zipT, ↓e_zipM, ↓e_zipMK, ↓e_zipS, ↓e_zipSK, ↓e_for, ↓e_lc, ↓e_lcNew, ↓e_forN, ↓e_forC, ↓e_lcN, ↓e_lcC, ↓e_srcN, ↓e_srcC, ↓e_meth, ↓e_isL, ↓e_sub, ↓e_aug, ↓e_augK, ↓e_isi, ↓e_yes, ↓e_bits, ↓e_bitsK, ↓e_cLast, ↓e_cLink, ↓e_cK, ↓e_cNext, ↓e_testCh, ↓e_addI, ↓e_addB, ↓e_addS, ↓e_addT, ↓e_addL, ↓e_subI, ↓e_mulI, ↓e_mulT, ↓e_mulL, ↓e_divI, ↓e_modI, ↓e_powI, ↓e_negI, ↓e_iadd, ↓e_cmpI, ↓e_eq, ↓e_ne, ↓e_isn, ↓e_isnn, ↓e_isb, ↓e_ixL, ↓e_ixKL, ↓e_ixT, ↓e_cutL, ↓e_cutKL, ↓e_cutT, ↓e_lenL, ↓e_lenKL, ↓e_lenT, ↓e_abs, ↓e_intI, ↓e_intB, ↓e_max2, ↓e_min2, ↓e_listL, ↓e_listT, ↓e_listNL, ↓e_listNT, ↓e_tupL, ↓e_tupT, ↓e_sum1T, ↓e_sum1L, ↓e_max1T, ↓e_max1L, ↓e_drI, ↓e_drB, ↓e_drS, ↓e_drN, ↓e_drL, ↓e_drT, ↓e_seq, ↓e_back, ↓e_backL, ↓e_backT, ↓e_sortedL, ↓e_sortedNL, ↓e_divmod, ↓e_lr1, ↓e_lr1K, ↓e_lr2, ↓e_lr2K, ↓e_lr3, ↓e_lr3K, ↓e_revR1, ↓e_revR1K, ↓e_srtSet, ↓e_unlL, ↓e_inL, ↓e_inKL, ↓e_inT, ↓e_inFlat, ↓e_drK, ↓e_srtSetL, ↓e_lenSet, ↓e_lenSetL, ↓e_enumF, ↓e_enumFT, ↓e_reprL, ↓e_reprT, ↓e_reprI, ↓e_reprB, ↓e_reprN, ↓e_reprS, ↓e_strI, ↓e_isub, ↓e_strB, ↓e_addBI, ↓e_subBI, ↓e_subIB, ↓e_drG, ↓e_dnew, ↓e_dgetF, ↓e_dget1, ↓e_dget2, ↓e_dsetdS, ↓e_dgPut, ↓e_lenSetZ, ↓e_lenSetZL, e_kyI, e_kyS, Nat.reduceAdd, Nat.zero_add, List.length_cons, List.length_nil, List.length_map, Nat.reduceLeDiff, and_true, true_and, if_true, ite_true, decide_eq_true_eq, Bool.not_eq_true, Bool.false_eq_true, if_false, ite_false, ↓reduceIte, Int.reduceToNat, Int.reducePow, ne_eq, q_okI, q_okB, q_okN, q_okS, q_okL, q_okT, q_oks0, q_oks1, q_eqII, q_eqBB, q_eqSS, q_eqLL, q_eqTT, q_eqNN, q_eqNI, q_eqIN, q_eqs0, q_eqs1, Bool.true_and, Bool.and_true, beq_iff_eq, reduceCtorEq, wipeE, List.set_cons_zero, List.set_cons_succ, List.set_nil, Bool.not_true, Bool.not_false, List.getElem?_cons_zero, List.getElem?_cons_succ])
  have fin : ∀ c : Int, PowOk 10 18 → kk (.obj st.length) (st ++ [[.int ((if c < 0 then -c else c) * (if (10 : Int) ^ 18 ≤ (if c < 0 then -c else c) then 1 else 0)), .int (c % 2305843009213693951 + 39373 * (k : Int) + 17), .int 0]]) := fun c _ => by
    refine h _ ⟨_, _, _, rfl, ?_, ?_, Int.le_refl _, by omega⟩
    · have := Int.emod_nonneg c (b := 2305843009213693951) (by decide)
      omega
    · have := Int.emod_lt_of_pos c (b := 2305843009213693951) (by decide)
      omega
  have pw : PowOk 10 18 := ⟨by decide, by decide, by decide⟩
  have m1 : MulOk 39373 (k : Int) := mulc _ _ (by decide) (by decide)
  split
  · rename_i hlt
    have hlt' : k < cs.length := by omega
    refine ⟨_, atI_ints hlt', ?_⟩
    (try simp only [BEq.rfl, ↓e_v0, ↓e_vs, ↓e_c, ↓e_op, ↓e_un, ↓e_test, ↓e_testK, ↓e_tru, ↓e_truL, ↓e_truT, ↓e_truB, ↓e_truI, ↓e_truN, ↓e_truS, ↓e_not, ↓e_and, ↓e_or, ↓e_andv, ↓e_orv, ↓e_notv, ↓e_andK, ↓e_orK, ↓e_notK, ↓e_if, ↓e_nil, ↓e_cons, ↓e_tup, ↓e_lst, ↓e_new, ↓e_call, ↓e_callK, ↓e_drop, ↓e_ret, ↓e_retN, ↓e_pass, ↓e_ifS, ↓e_g0, ↓e_gs, ↓e_gnil, ↓e_gcons, ↓e_gtup, ↓e_asg, ↓e_par, ↓e_parK, ↓e_par3, ↓e_par3K, ↓e_chain, ↓e_chK, ↓e_no, ↓e_some, ↓e_someK, ↓e_cut, ↓e_b, ↓e_iter, ↓e_iterL, ↓e_iterT, ↓e_iterS, ↓e_rng1, ↓e_rng1K, ↓e_rng2, ↓e_rng2K, ↓e_rng3, ↓e_rng3K, ↓e_enum, ↓e_enumL, ↓e_enumT, ↓e_zip, ↓e_zipL, ↓e_zipT, ↓e_zipM, ↓e_zipMK, ↓e_zipS, ↓e_zipSK, ↓e_for, ↓e_lc, ↓e_lcNew, ↓e_forN, ↓e_forC, ↓e_lcN, ↓e_lcC, ↓e_srcN, ↓e_srcC, ↓e_meth, ↓e_isL, ↓e_sub, ↓e_aug, ↓e_augK, ↓e_isi, ↓e_yes, ↓e_bits, ↓e_bitsK, ↓e_cLast, ↓e_cLink, ↓e_cK, ↓e_cNext, ↓e_testCh, ↓e_addI, ↓e_addB, ↓e_addS, ↓e_addT, ↓e_addL, ↓e_subI, ↓e_mulI, ↓e_mulT, ↓e_mulL, ↓e_divI, ↓e_modI, ↓e_powI, ↓e_negI, ↓e_iadd, ↓e_cmpI, ↓e_eq, ↓e_ne, ↓e_isn, ↓e_isnn, ↓e_isb, ↓e_ixL, ↓e_ixKL, ↓e_ixT, ↓e_cutL, ↓e_cutKL, ↓e_cutT, ↓e_lenL, ↓e_lenKL, ↓e_lenT, ↓e_abs, ↓e_intI, ↓e_intB, ↓e_max2, ↓e_min2, ↓e_listL, ↓e_listT, ↓e_listNL, ↓e_listNT, ↓e_tupL, ↓e_tupT, ↓e_sum1T, ↓e_sum1L, ↓e_max1T, ↓e_max1L, ↓e_drI, ↓e_drB, ↓e_drS, ↓e_drN, ↓e_drL, ↓e_drT, ↓e_seq, ↓e_back, ↓e_backL, ↓e_backT, ↓e_sortedL, ↓e_sortedNL, ↓e_divmod, ↓e_lr1, ↓e_lr1K, ↓e_lr2, ↓e_lr2K, ↓e_lr3, ↓e_lr3K, ↓e_revR1, ↓e_revR1K, ↓e_srtSet, ↓e_unlL, ↓e_inL, ↓e_inKL, ↓e_inT, ↓e_inFlat, ↓e_drK, ↓e_srtSetL, ↓e_lenSet, ↓e_lenSetL, ↓e_enumF, ↓e_enumFT, ↓e_reprL, ↓e_reprT, ↓e_reprI, ↓e_reprB, ↓e_reprN, ↓e_reprS, ↓e_strI, ↓e_isub, ↓e_strB, ↓e_addBI, ↓e_subBI, ↓e_subIB, ↓e_drG, ↓e_dnew, ↓e_dgetF, ↓e_dget1, ↓e_dget2, ↓e_dsetdS, ↓e_dgPut, ↓e_lenSetZ, ↓e_lenSetZL, e_kyI, e_kyS, Nat.reduceAdd, Nat.zero_add, List.length_cons, List.length_nil, List.length_map, Nat.reduceLeDiff, and_true, true_and, if_true, ite_true, decide_eq_true_eq, Bool.not_eq_true, Bool.false_eq_true, if_false, ite_false, ↓reduceIte, Int.reduceToNat, Int.reducePow, ne_eq, q_okI, q_okB, q_okN, q_okS, q_okL, q_okT, q_oks0, q_oks1, q_eqII, q_eqBB, q_eqSS, q_eqLL, q_eqTT, q_eqNN, q_eqNI, q_eqIN, q_eqs0, q_eqs1, Bool.true_and, Bool.and_true, beq_iff_eq, reduceCtorEq, wipeE, List.set_cons_zero, List.set_cons_succ, List.set_nil, Bool.not_true, Bool.not_false, List.getElem?_cons_zero, List.getElem?_cons_succ])
    exact ⟨pw, mulb _ _, by decide, m1, fin _ pw⟩
  · exact ⟨pw, mulb _ _, by decide, m1, fin 0 pw⟩
def t__law_draw : DS :=
    (dSeq (dIfS (dTest (dOp (cmpI fun i j => decide (j < i)) (dOp ixD (dVar 0) (dC (.int 0))) (dC (.int 0)))) (dSeq (dAsg (dOp modD (dOp ixD (dVar 0) (dC (.int 0))) (dVar 1)) (dgName 2))
    (dSeq (dAsg (dOp divD (dOp ixD (dVar 0) (dC (.int 0))) (dVar 1)) (dgSub (dVar 0) (dC (.int 0))))
    (dRet (dVar 2)))) dPass)
    (dSeq (dAsg (dOp addD (dOp ixD (dVar 0) (dC (.int 2))) (dC (.int 1))) (dgSub (dVar 0) (dC (.int 2))))
    (dSeq (dAsg (dOp modD (dOp powD (dOp addD (dOp ixD (dVar 0) (dC (.int 1))) (dOp mulD (dC (.int 39373)) (dOp ixD (dVar 0) (dC (.int 2))))) (dC (.int 5))) (dC (.int 2147483647))) (dgName 3))
    (dSeq (dAsg (dOp modD (dOp mulD (dOp addD (dVar 3) (dOp ixD (dVar 0) (dC (.int 2)))) (dOp addD (dOp addD (dOp modD (dVar 3) (dC (.int 40009))) (dC (.int 7))) (dOp ixD (dVar 0) (dC (.int 2))))) (dC (.int 2147483629))) (dgName 4))
    (dSeq (dAsg (dOp modD (dOp addD (dOp addD (dOp divD (dOp ixD (dVar 0) (dC (.int 1))) (dC (.int 2147483647))) (dOp mulD (dVar 4) (dC (.int 40009)))) (dOp ixD (dVar 0) (dC (.int 2)))) (dC (.int 2305843009213693951))) (dgName 5))
    (dRet (dOp modD (dOp divD (dOp modD (dOp addD (dOp addD (dOp mulD (dVar 4) (dC (.int 48271))) (dOp mulD (dVar 5) (dC (.int 39373)))) (dVar 3)) (dC (.int 2305843009213693921))) (dC (.int 64))) (dVar 1))))))))
theorem st__law_draw (a0 a1 : D) : startD N__law_draw [a0, a1] = [some a0, some a1, none, none, none, none] := rfl
def sp__law_draw : SpD := fun ds st kk => ∃ (i n : Nat) (m : Int), ds = [.obj i, .int m] ∧ Tp i n st ∧ n < 1000000000000 ∧ Big m ∧ ∀ (r : Int) xs, 0 ≤ r → r < m → Tp i (n + 1) (st.set i xs) → kk (.int r) (st.set i xs)
theorem len__law_draw (ds : List D) (st : Sto) (kk : DK) (h : sp__law_draw ds st kk) : ds.length = 2 := by
  obtain ⟨i, n, m, rfl, _⟩ := h
  rfl
theorem p__law_draw : BodyD false N__law_draw sp__law_draw t__law_draw := by
  rintro ds st kk ⟨i, n, m, rfl, ⟨xs, hx, a, b, c, rfl, h1, h2, h3, h4⟩, hn, hm, h⟩
  have hi : i < st.length := (List.getElem?_eq_some_iff.mp hx).1
  have hs : ∀ ys : List D, (st.set i ys)[i]? = some ys := fun ys => List.getElem?_set_self hi
  have p5 : PowOk (b + 39373 * (c + 1)) 5 := pow5 (by omega) (by omega)
  rw [st__law_draw]
  simp only [t__law_draw]
  (try simp only [BEq.rfl, ↓e_v0, ↓e_vs, ↓e_c, ↓e_op, ↓e_un, ↓e_test, ↓e_testK, ↓e_tru, ↓e_truL, ↓e_truT, ↓e_truB, ↓e_truI, ↓e_truN, ↓e_truS, ↓e_not, ↓e_and, ↓e_or, ↓e_andv, ↓e_orv, ↓e_notv, ↓e_andK, ↓e_orK, ↓e_notK, ↓e_if, ↓e_nil, ↓e_cons, ↓e_tup, ↓e_lst, ↓e_new, ↓e_call, ↓e_callK, ↓e_drop, ↓e_ret, ↓e_retN, ↓e_pass, ↓e_ifS, ↓e_g0, ↓e_gs, ↓e_gnil, ↓e_gcons, ↓e_gtup, ↓e_asg, ↓e_par, ↓e_parK, ↓e_par3, ↓e_par3K, ↓e_chain, ↓e_chK, ↓e_no, ↓e_some, ↓e_someK, ↓e_cut, ↓e_b, ↓e_iter, ↓e_iterL, ↓e_iterT, ↓e_iterS, ↓e_rng1, ↓e_rng1K, ↓e_rng2, ↓e_rng2K, ↓e_rng3, ↓e_rng3K, ↓e_enum, ↓e_enumL, ↓e_enumT, ↓e_zip, ↓e_zipL, ↓e_zipT, ↓e_zipM, ↓e_zipMK, ↓e_zipS, ↓e_zipSK, ↓e_for, ↓e_lc, ↓e_lcNew, ↓e_forN, ↓e_forC, ↓e_lcN, ↓e_lcC, ↓e_srcN, ↓e_srcC, ↓e_meth, ↓e_isL, ↓e_sub, ↓e_aug, ↓e_augK, ↓e_isi, ↓e_yes, ↓e_bits, ↓e_bitsK, ↓e_cLast, ↓e_cLink, ↓e_cK, ↓e_cNext, ↓e_testCh, ↓e_addI, ↓e_addB, ↓e_addS, ↓e_addT, ↓e_addL, ↓e_subI, ↓e_mulI, ↓e_mulT, ↓e_mulL, ↓e_divI, ↓e_modI, ↓e_powI, ↓e_negI, ↓e_iadd, ↓e_cmpI, ↓e_eq, ↓e_ne, ↓e_isn, ↓e_isnn, ↓e_isb, ↓e_ixL, ↓e_ixKL, ↓e_ixT, ↓e_cutL, ↓e_cutKL, ↓e_cutT, ↓e_lenL, ↓e_lenKL, ↓e_lenT, ↓e_abs, ↓e_intI, ↓e_intB, ↓e_max2, ↓e_min2, ↓e_listL, ↓e_listT, ↓e_listNL, ↓e_listNT, ↓e_tupL, ↓e_tupT, ↓e_sum1T, ↓e_sum1L, ↓e_max1T, ↓e_max1L, ↓e_drI, ↓e_drB, ↓e_drS, ↓e_drN, ↓e_drL, ↓e_drT, ↓e_seq, ↓e_back, ↓e_backL, ↓e_backT, ↓e_sortedL, ↓e_sortedNL, ↓e_divmod, ↓e_lr1, ↓e_lr1K, ↓e_lr2, ↓e_lr2K, ↓e_lr3, ↓e_lr3K, ↓e_revR1, ↓e_revR1K, ↓e_srtSet, ↓e_unlL, ↓e_inL, ↓e_inKL, ↓e_inT, ↓e_inFlat, ↓e_drK, ↓e_srtSetL, ↓e_lenSet, ↓e_lenSetL, ↓e_enumF, ↓e_enumFT, ↓e_reprL, ↓e_reprT, ↓e_reprI, ↓e_reprB, ↓e_reprN, ↓e_reprS, ↓e_strI, ↓e_isub, ↓e_strB, ↓e_addBI, ↓e_subBI, ↓e_subIB, ↓e_drG, ↓e_dnew, ↓e_dgetF, ↓e_dget1, ↓e_dget2, ↓e_dsetdS, ↓e_dgPut, ↓e_lenSetZ, ↓e_lenSetZL, e_kyI, e_kyS, Nat.reduceAdd, Nat.zero_add, List.length_cons, List.length_nil, List.length_map, Nat.reduceLeDiff, and_true, true_and, if_true, ite_true, decide_eq_true_eq, Bool.not_eq_true, Bool.false_eq_true, if_false, ite_false, ↓reduceIte, Int.reduceToNat, Int.reducePow, ne_eq, q_okI, q_okB, q_okN, q_okS, q_okL, q_okT, q_oks0, q_oks1, q_eqII, q_eqBB, q_eqSS, q_eqLL, q_eqTT, q_eqNN, q_eqNI, q_eqIN, q_eqs0, q_eqs1, Bool.true_and, Bool.and_true, beq_iff_eq, reduceCtorEq, wipeE, List.set_cons_zero, List.set_cons_succ, List.set_nil, Bool.not_true, Bool.not_false, List.getElem?_cons_zero, List.getElem?_cons_succ, e_ixO hx, at0, at1, at2, Option.some.injEq, exists_eq_left', e_setO hx])
  have tp : ∀ a' : Int, Tp i (n + 1) (st.set i [.int a', .int b, .int c]) := fun a' => ⟨_, hs _, _, _, _, rfl, h1, h2, h3, by omega⟩
  have tp2 : Tp i (n + 1) (st.set i [.int a, .int b, .int (c + 1)]) := ⟨_, hs _, _, _, _, rfl, h1, h2, by omega, by omega⟩
  split
  · exact ⟨by have := hm.1; omega, hm.div, 0, rfl, h _ _ (Int.emod_nonneg _ (by have := hm.1; omega)) (Int.emod_lt_of_pos _ (by have := hm.1; omega)) (tp _)⟩
  · refine ⟨2, rfl, ?_⟩
    (try simp only [BEq.rfl, ↓e_v0, ↓e_vs, ↓e_c, ↓e_op, ↓e_un, ↓e_test, ↓e_testK, ↓e_tru, ↓e_truL, ↓e_truT, ↓e_truB, ↓e_truI, ↓e_truN, ↓e_truS, ↓e_not, ↓e_and, ↓e_or, ↓e_andv, ↓e_orv, ↓e_notv, ↓e_andK, ↓e_orK, ↓e_notK, ↓e_if, ↓e_nil, ↓e_cons, ↓e_tup, ↓e_lst, ↓e_new, ↓e_call, ↓e_callK, ↓e_drop, ↓e_ret, ↓e_retN, ↓e_pass, ↓e_ifS, ↓e_g0, ↓e_gs, ↓e_gnil, ↓e_gcons, ↓e_gtup, ↓e_asg, ↓e_par, ↓e_parK, ↓e_par3, ↓e_par3K, ↓e_chain, ↓e_chK, ↓e_no, ↓e_some, ↓e_someK, ↓e_cut, ↓e_b, ↓e_iter, ↓e_iterL, ↓e_iterT, ↓e_iterS, ↓e_rng1, ↓e_rng1K, ↓e_rng2, ↓e_rng2K, ↓e_rng3, ↓e_rng3K, ↓e_enum, ↓e_enumL, ↓e_enumT, ↓e_zip, ↓e_zipL, ↓e_zipT, ↓e_zipM, ↓e_zipMK, ↓e_zipS, ↓e_zipSK, ↓e_for, ↓e_lc, ↓e_lcNew, ↓e_forN, ↓e_forC, ↓e_lcN, ↓e_lcC, ↓e_srcN, ↓e_srcC, ↓e_meth, ↓e_isL, ↓e_sub, ↓e_aug, ↓e_augK, ↓e_isi, ↓e_yes, ↓e_bits, ↓e_bitsK, ↓e_cLast, ↓e_cLink, ↓e_cK, ↓e_cNext, ↓e_testCh, ↓e_addI, ↓e_addB, ↓e_addS, ↓e_addT, ↓e_addL, ↓e_subI, ↓e_mulI, ↓e_mulT, ↓e_mulL, ↓e_divI, ↓e_modI, ↓e_powI, ↓e_negI, ↓e_iadd, ↓e_cmpI, ↓e_eq, ↓e_ne, ↓e_isn, ↓e_isnn, ↓e_isb, ↓e_ixL, ↓e_ixKL, ↓e_ixT, ↓e_cutL, ↓e_cutKL, ↓e_cutT, ↓e_lenL, ↓e_lenKL, ↓e_lenT, ↓e_abs, ↓e_intI, ↓e_intB, ↓e_max2, ↓e_min2, ↓e_listL, ↓e_listT, ↓e_listNL, ↓e_listNT, ↓e_tupL, ↓e_tupT, ↓e_sum1T, ↓e_sum1L, ↓e_max1T, ↓e_max1L, ↓e_drI, ↓e_drB, ↓e_drS, ↓e_drN, ↓e_drL, ↓e_drT, ↓e_seq, ↓e_back, ↓e_backL, ↓e_backT, ↓e_sortedL, ↓e_sortedNL, ↓e_divmod, ↓e_lr1, ↓e_lr1K, ↓e_lr2, ↓e_lr2K, ↓e_lr3, ↓e_lr3K, ↓e_revR1, ↓e_revR1K, ↓e_srtSet, ↓e_unlL, ↓e_inL, ↓e_inKL, ↓e_inT, ↓e_inFlat, ↓e_drK, ↓e_srtSetL, ↓e_lenSet, ↓e_lenSetL, ↓e_enumF, ↓e_enumFT, ↓e_reprL, ↓e_reprT, ↓e_reprI, ↓e_reprB, ↓e_reprN, ↓e_reprS, ↓e_strI, ↓e_isub, ↓e_strB, ↓e_addBI, ↓e_subBI, ↓e_subIB, ↓e_drG, ↓e_dnew, ↓e_dgetF, ↓e_dget1, ↓e_dget2, ↓e_dsetdS, ↓e_dgPut, ↓e_lenSetZ, ↓e_lenSetZL, e_kyI, e_kyS, Nat.reduceAdd, Nat.zero_add, List.length_cons, List.length_nil, List.length_map, Nat.reduceLeDiff, and_true, true_and, if_true, ite_true, decide_eq_true_eq, Bool.not_eq_true, Bool.false_eq_true, if_false, ite_false, ↓reduceIte, Int.reduceToNat, Int.reducePow, ne_eq, q_okI, q_okB, q_okN, q_okS, q_okL, q_okT, q_oks0, q_oks1, q_eqII, q_eqBB, q_eqSS, q_eqLL, q_eqTT, q_eqNN, q_eqNI, q_eqIN, q_eqs0, q_eqs1, Bool.true_and, Bool.and_true, beq_iff_eq, reduceCtorEq, wipeE, List.set_cons_zero, List.set_cons_succ, List.set_nil, Bool.not_true, Bool.not_false, List.getElem?_cons_zero, List.getElem?_cons_succ, List.set_cons_succ, List.set_cons_zero, e_ixO (hs _), at0, at1, at2, Option.some.injEq, exists_eq_left'])
    refine ⟨mulc _ _ (by decide) (by decide), p5, by decide, ?_⟩
    generalize hA : (b + 39373 * (c + 1)) ^ 5 % 2147483647 = A
    have hA0 : 0 ≤ A := by rw [← hA]; exact Int.emod_nonneg _ (by decide)
    have hA1 : A < 2147483647 := by rw [← hA]; exact Int.emod_lt_of_pos _ (by decide)
    (try simp only [BEq.rfl, ↓e_v0, ↓e_vs, ↓e_c, ↓e_op, ↓e_un, ↓e_test, ↓e_testK, ↓e_tru, ↓e_truL, ↓e_truT, ↓e_truB, ↓e_truI, ↓e_truN, ↓e_truS, ↓e_not, ↓e_and, ↓e_or, ↓e_andv, ↓e_orv, ↓e_notv, ↓e_andK, ↓e_orK, ↓e_notK, ↓e_if, ↓e_nil, ↓e_cons, ↓e_tup, ↓e_lst, ↓e_new, ↓e_call, ↓e_callK, ↓e_drop, ↓e_ret, ↓e_retN, ↓e_pass, ↓e_ifS, ↓e_g0, ↓e_gs, ↓e_gnil, ↓e_gcons, ↓e_gtup, ↓e_asg, ↓e_par, ↓e_parK, ↓e_par3, ↓e_par3K, ↓e_chain, ↓e_chK, ↓e_no, ↓e_some, ↓e_someK, ↓e_cut, ↓e_b, ↓e_iter, ↓e_iterL, ↓e_iterT, ↓e_iterS, ↓e_rng1, ↓e_rng1K, ↓e_rng2, ↓e_rng2K, ↓e_rng3, ↓e_rng3K, ↓e_enum, ↓e_enumL, ↓e_enumT, ↓e_zip, ↓e_zipL, ↓e_zipT, ↓e_zipM, ↓e_zipMK, ↓e_zipS, ↓e_zipSK, ↓e_for, ↓e_lc, ↓e_lcNew, ↓e_forN, ↓e_forC, ↓e_lcN, ↓e_lcC, ↓e_srcN, ↓e_srcC, ↓e_meth, ↓e_isL, ↓e_sub, ↓e_aug, ↓e_augK, ↓e_isi, ↓e_yes, ↓e_bits, ↓e_bitsK, ↓e_cLast, ↓e_cLink, ↓e_cK, ↓e_cNext, ↓e_testCh, ↓e_addI, ↓e_addB, ↓e_addS, ↓e_addT, ↓e_addL, ↓e_subI, ↓e_mulI, ↓e_mulT, ↓e_mulL, ↓e_divI, ↓e_modI, ↓e_powI, ↓e_negI, ↓e_iadd, ↓e_cmpI, ↓e_eq, ↓e_ne, ↓e_isn, ↓e_isnn, ↓e_isb, ↓e_ixL, ↓e_ixKL, ↓e_ixT, ↓e_cutL, ↓e_cutKL, ↓e_cutT, ↓e_lenL, ↓e_lenKL, ↓e_lenT, ↓e_abs, ↓e_intI, ↓e_intB, ↓e_max2, ↓e_min2, ↓e_listL, ↓e_listT, ↓e_listNL, ↓e_listNT, ↓e_tupL, ↓e_tupT, ↓e_sum1T, ↓e_sum1L, ↓e_max1T, ↓e_max1L, ↓e_drI, ↓e_drB, ↓e_drS, ↓e_drN, ↓e_drL, ↓e_drT, ↓e_seq, ↓e_back, ↓e_backL, ↓e_backT, ↓e_sortedL, ↓e_sortedNL, ↓e_divmod, ↓e_lr1, ↓e_lr1K, ↓e_lr2, ↓e_lr2K, ↓e_lr3, ↓e_lr3K, ↓e_revR1, ↓e_revR1K, ↓e_srtSet, ↓e_unlL, ↓e_inL, ↓e_inKL, ↓e_inT, ↓e_inFlat, ↓e_drK, ↓e_srtSetL, ↓e_lenSet, ↓e_lenSetL, ↓e_enumF, ↓e_enumFT, ↓e_reprL, ↓e_reprT, ↓e_reprI, ↓e_reprB, ↓e_reprN, ↓e_reprS, ↓e_strI, ↓e_isub, ↓e_strB, ↓e_addBI, ↓e_subBI, ↓e_subIB, ↓e_drG, ↓e_dnew, ↓e_dgetF, ↓e_dget1, ↓e_dget2, ↓e_dsetdS, ↓e_dgPut, ↓e_lenSetZ, ↓e_lenSetZL, e_kyI, e_kyS, Nat.reduceAdd, Nat.zero_add, List.length_cons, List.length_nil, List.length_map, Nat.reduceLeDiff, and_true, true_and, if_true, ite_true, decide_eq_true_eq, Bool.not_eq_true, Bool.false_eq_true, if_false, ite_false, ↓reduceIte, Int.reduceToNat, Int.reducePow, ne_eq, q_okI, q_okB, q_okN, q_okS, q_okL, q_okT, q_oks0, q_oks1, q_eqII, q_eqBB, q_eqSS, q_eqLL, q_eqTT, q_eqNN, q_eqNI, q_eqIN, q_eqs0, q_eqs1, Bool.true_and, Bool.and_true, beq_iff_eq, reduceCtorEq, wipeE, List.set_cons_zero, List.set_cons_succ, List.set_nil, Bool.not_true, Bool.not_false, List.getElem?_cons_zero, List.getElem?_cons_succ, e_ixO (hs _), at0, at1, at2, Option.some.injEq, exists_eq_left'])
    refine ⟨by decide, mulc _ _ (by omega) (by omega), by decide, ?_⟩
    generalize hB : (A + (c + 1)) * (A % 40009 + 7 + (c + 1)) % 2147483629 = B
    have hB0 : 0 ≤ B := by rw [← hB]; exact Int.emod_nonneg _ (by decide)
    have hB1 : B < 2147483629 := by rw [← hB]; exact Int.emod_lt_of_pos _ (by decide)
    (try simp only [BEq.rfl, ↓e_v0, ↓e_vs, ↓e_c, ↓e_op, ↓e_un, ↓e_test, ↓e_testK, ↓e_tru, ↓e_truL, ↓e_truT, ↓e_truB, ↓e_truI, ↓e_truN, ↓e_truS, ↓e_not, ↓e_and, ↓e_or, ↓e_andv, ↓e_orv, ↓e_notv, ↓e_andK, ↓e_orK, ↓e_notK, ↓e_if, ↓e_nil, ↓e_cons, ↓e_tup, ↓e_lst, ↓e_new, ↓e_call, ↓e_callK, ↓e_drop, ↓e_ret, ↓e_retN, ↓e_pass, ↓e_ifS, ↓e_g0, ↓e_gs, ↓e_gnil, ↓e_gcons, ↓e_gtup, ↓e_asg, ↓e_par, ↓e_parK, ↓e_par3, ↓e_par3K, ↓e_chain, ↓e_chK, ↓e_no, ↓e_some, ↓e_someK, ↓e_cut, ↓e_b, ↓e_iter, ↓e_iterL, ↓e_iterT, ↓e_iterS, ↓e_rng1, ↓e_rng1K, ↓e_rng2, ↓e_rng2K, ↓e_rng3, ↓e_rng3K, ↓e_enum, ↓e_enumL, ↓e_enumT, ↓e_zip, ↓e_zipL, ↓e_zipT, ↓e_zipM, ↓e_zipMK, ↓e_zipS, ↓e_zipSK, ↓e_for, ↓e_lc, ↓e_lcNew, ↓e_forN, ↓e_forC, ↓e_lcN, ↓e_lcC, ↓e_srcN, ↓e_srcC, ↓e_meth, ↓e_isL, ↓e_sub, ↓e_aug, ↓e_augK, ↓e_isi, ↓e_yes, ↓e_bits, ↓e_bitsK, ↓e_cLast, ↓e_cLink, ↓e_cK, ↓e_cNext, ↓e_testCh, ↓e_addI, ↓e_addB, ↓e_addS, ↓e_addT, ↓e_addL, ↓e_subI, ↓e_mulI, ↓e_mulT, ↓e_mulL, ↓e_divI, ↓e_modI, ↓e_powI, ↓e_negI, ↓e_iadd, ↓e_cmpI, ↓e_eq, ↓e_ne, ↓e_isn, ↓e_isnn, ↓e_isb, ↓e_ixL, ↓e_ixKL, ↓e_ixT, ↓e_cutL, ↓e_cutKL, ↓e_cutT, ↓e_lenL, ↓e_lenKL, ↓e_lenT, ↓e_abs, ↓e_intI, ↓e_intB, ↓e_max2, ↓e_min2, ↓e_listL, ↓e_listT, ↓e_listNL, ↓e_listNT, ↓e_tupL, ↓e_tupT, ↓e_sum1T, ↓e_sum1L, ↓e_max1T, ↓e_max1L, ↓e_drI, ↓e_drB, ↓e_drS, ↓e_drN, ↓e_drL, ↓e_drT, ↓e_seq, ↓e_back, ↓e_backL, ↓e_backT, ↓e_sortedL, ↓e_sortedNL, ↓e_divmod, ↓e_lr1, ↓e_lr1K, ↓e_lr2, ↓e_lr2K, ↓e_lr3, ↓e_lr3K, ↓e_revR1, ↓e_revR1K, ↓e_srtSet, ↓e_unlL, ↓e_inL, ↓e_inKL, ↓e_inT, ↓e_inFlat, ↓e_drK, ↓e_srtSetL, ↓e_lenSet, ↓e_lenSetL, ↓e_enumF, ↓e_enumFT, ↓e_reprL, ↓e_reprT, ↓e_reprI, ↓e_reprB, ↓e_reprN, ↓e_reprS, ↓e_strI, ↓e_isub, ↓e_strB, ↓e_addBI, ↓e_subBI, ↓e_subIB, ↓e_drG, ↓e_dnew, ↓e_dgetF, ↓e_dget1, ↓e_dget2, ↓e_dsetdS, ↓e_dgPut, ↓e_lenSetZ, ↓e_lenSetZL, e_kyI, e_kyS, Nat.reduceAdd, Nat.zero_add, List.length_cons, List.length_nil, List.length_map, Nat.reduceLeDiff, and_true, true_and, if_true, ite_true, decide_eq_true_eq, Bool.not_eq_true, Bool.false_eq_true, if_false, ite_false, ↓reduceIte, Int.reduceToNat, Int.reducePow, ne_eq, q_okI, q_okB, q_okN, q_okS, q_okL, q_okT, q_oks0, q_oks1, q_eqII, q_eqBB, q_eqSS, q_eqLL, q_eqTT, q_eqNN, q_eqNI, q_eqIN, q_eqs0, q_eqs1, Bool.true_and, Bool.and_true, beq_iff_eq, reduceCtorEq, wipeE, List.set_cons_zero, List.set_cons_succ, List.set_nil, Bool.not_true, Bool.not_false, List.getElem?_cons_zero, List.getElem?_cons_succ, e_ixO (hs _), at0, at1, at2, Option.some.injEq, exists_eq_left'])
    refine ⟨div_small (by decide) (by decide), mulc _ _ (by omega) (by omega), by decide, ?_⟩
    generalize hC : (b / 2147483647 + B * 40009 + (c + 1)) % 2305843009213693951 = C
    have hC0 : 0 ≤ C := by rw [← hC]; exact Int.emod_nonneg _ (by decide)
    have hC1 : C < 2305843009213693951 := by rw [← hC]; exact Int.emod_lt_of_pos _ (by decide)
    (try simp only [BEq.rfl, ↓e_v0, ↓e_vs, ↓e_c, ↓e_op, ↓e_un, ↓e_test, ↓e_testK, ↓e_tru, ↓e_truL, ↓e_truT, ↓e_truB, ↓e_truI, ↓e_truN, ↓e_truS, ↓e_not, ↓e_and, ↓e_or, ↓e_andv, ↓e_orv, ↓e_notv, ↓e_andK, ↓e_orK, ↓e_notK, ↓e_if, ↓e_nil, ↓e_cons, ↓e_tup, ↓e_lst, ↓e_new, ↓e_call, ↓e_callK, ↓e_drop, ↓e_ret, ↓e_retN, ↓e_pass, ↓e_ifS, ↓e_g0, ↓e_gs, ↓e_gnil, ↓e_gcons, ↓e_gtup, ↓e_asg, ↓e_par, ↓e_parK, ↓e_par3, ↓e_par3K, ↓e_chain, ↓e_chK, ↓e_no, ↓e_some, ↓e_someK, ↓e_cut, ↓e_b, ↓e_iter, ↓e_iterL, ↓e_iterT, ↓e_iterS, ↓e_rng1, ↓e_rng1K, ↓e_rng2, ↓e_rng2K, ↓e_rng3, ↓e_rng3K, ↓e_enum, ↓e_enumL, ↓e_enumT, ↓e_zip, ↓e_zipL, ↓e_zipT, ↓e_zipM, ↓e_zipMK, ↓e_zipS, ↓e_zipSK, ↓e_for, ↓e_lc, ↓e_lcNew, ↓e_forN, ↓e_forC, ↓e_lcN, ↓e_lcC, ↓e_srcN, ↓e_srcC, ↓e_meth, ↓e_isL, ↓e_sub, ↓e_aug, ↓e_augK, ↓e_isi, ↓e_yes, ↓e_bits, ↓e_bitsK, ↓e_cLast, ↓e_cLink, ↓e_cK, ↓e_cNext, ↓e_testCh, ↓e_addI, ↓e_addB, ↓e_addS, ↓e_addT, ↓e_addL, ↓e_subI, ↓e_mulI, ↓e_mulT, ↓e_mulL, ↓e_divI, ↓e_modI, ↓e_powI, ↓e_negI, ↓e_iadd, ↓e_cmpI, ↓e_eq, ↓e_ne, ↓e_isn, ↓e_isnn, ↓e_isb, ↓e_ixL, ↓e_ixKL, ↓e_ixT, ↓e_cutL, ↓e_cutKL, ↓e_cutT, ↓e_lenL, ↓e_lenKL, ↓e_lenT, ↓e_abs, ↓e_intI, ↓e_intB, ↓e_max2, ↓e_min2, ↓e_listL, ↓e_listT, ↓e_listNL, ↓e_listNT, ↓e_tupL, ↓e_tupT, ↓e_sum1T, ↓e_sum1L, ↓e_max1T, ↓e_max1L, ↓e_drI, ↓e_drB, ↓e_drS, ↓e_drN, ↓e_drL, ↓e_drT, ↓e_seq, ↓e_back, ↓e_backL, ↓e_backT, ↓e_sortedL, ↓e_sortedNL, ↓e_divmod, ↓e_lr1, ↓e_lr1K, ↓e_lr2, ↓e_lr2K, ↓e_lr3, ↓e_lr3K, ↓e_revR1, ↓e_revR1K, ↓e_srtSet, ↓e_unlL, ↓e_inL, ↓e_inKL, ↓e_inT, ↓e_inFlat, ↓e_drK, ↓e_srtSetL, ↓e_lenSet, ↓e_lenSetL, ↓e_enumF, ↓e_enumFT, ↓e_reprL, ↓e_reprT, ↓e_reprI, ↓e_reprB, ↓e_reprN, ↓e_reprS, ↓e_strI, ↓e_isub, ↓e_strB, ↓e_addBI, ↓e_subBI, ↓e_subIB, ↓e_drG, ↓e_dnew, ↓e_dgetF, ↓e_dget1, ↓e_dget2, ↓e_dsetdS, ↓e_dgPut, ↓e_lenSetZ, ↓e_lenSetZL, e_kyI, e_kyS, Nat.reduceAdd, Nat.zero_add, List.length_cons, List.length_nil, List.length_map, Nat.reduceLeDiff, and_true, true_and, if_true, ite_true, decide_eq_true_eq, Bool.not_eq_true, Bool.false_eq_true, if_false, ite_false, ↓reduceIte, Int.reduceToNat, Int.reducePow, ne_eq, q_okI, q_okB, q_okN, q_okS, q_okL, q_okT, q_oks0, q_oks1, q_eqII, q_eqBB, q_eqSS, q_eqLL, q_eqTT, q_eqNN, q_eqNI, q_eqIN, q_eqs0, q_eqs1, Bool.true_and, Bool.and_true, beq_iff_eq, reduceCtorEq, wipeE, List.set_cons_zero, List.set_cons_succ, List.set_nil, Bool.not_true, Bool.not_false, List.getElem?_cons_zero, List.getElem?_cons_succ, e_ixO (hs _), at0, at1, at2, Option.some.injEq, exists_eq_left'])
    refine ⟨mulc _ _ (by omega) (by omega), mulc _ _ (by omega) (by omega), by decide, div_small (by decide) (by decide), by have := hm.1; omega, ?_⟩
    exact h _ _ (Int.emod_nonneg _ (by have := hm.1; omega)) (Int.emod_lt_of_pos _ (by have := hm.1; omega)) tp2
def b1__law_folded : DS :=
    (dAsg (dOp addD (dOp ixD (dVar 2) (dOp modD (dVar 3) (dVar 1))) (dOp mulD (dVar 4) (dOp addD (dVar 3) (dC (.int 2))))) (dgSub (dVar 2) (dOp modD (dVar 3) (dVar 1))))
def t__law_folded : DS :=
    (dSeq (dAsg (dB bListNew (dCons (dCut cutOp (dVar 0) dNo (dSome (dVar 1))) dNil)) (dgName 2))
    (dSeq (dFor (dEnum (dCut cutOp (dVar 0) (dSome (dVar 1)) (dSome (dC (.int 63))))) (dgTup 2 (dgCons (dgName 3) (dgCons (dgName 4) dgNil))) (b1__law_folded))
    (dRet (dVar 2))))
theorem st__law_folded (a0 a1 : D) : startD N__law_folded [a0, a1] = [some a0, some a1, none, none, none] := rfl
theorem folded_loop (rt : DK) (a0 : D) (m : Nat) (hm : 1 ≤ m) (st : Sto) (kk : DL.Env → Sto → Prop) : ∀ (rs : List Int) (k : Nat) (cs : List Int) (v3 v4 : Option D), (rs ≠ [] → cs.length = m) → k + rs.length ≤ 1000 →
    (∀ (cs' : List Int) u3 u4, cs'.length = cs.length → kk [some a0, some (.int m), some (.obj st.length), u3, u4] (st ++ [cs'.map D.int])) →
    goFor [] (dgTup 2 (dgCons (dgName 3) (dgCons (dgName 4) dgNil))) b1__law_folded ⟨kk, rt⟩ (enumD k (rs.map D.int)) [some a0, some (.int m), some (.obj st.length), v3, v4] (st ++ [cs.map D.int])
  | [], k, cs, v3, v4, _, _, h => ⟨trivial, h cs v3 v4 rfl⟩
  | r :: rs, k, cs, v3, v4, hl, hk, h => by
    simp only [List.map_cons, enumD]
    rw [e_forC]
    refine ⟨trivial, ?_⟩
    have hc : cs.length = m := hl (by simp)
    have i0 : 0 ≤ (k : Int) % (m : Int) := Int.emod_nonneg _ (by omega)
    have i1 : (k : Int) % (m : Int) < (m : Int) := Int.emod_lt_of_pos _ (by omega)
    have ea : atI (cs.map D.int) ((k : Int) % (m : Int)) = some (.int (cs[((k : Int) % (m : Int)).toNat]'(by omega))) := by
      rw [atI_at i0 (by rw [List.length_map]; omega), List.getElem_map]
    have ei : ixN (cs.map D.int).length ((k : Int) % (m : Int)) = some ((k : Int) % (m : Int)).toNat := ixN_of i0 (by rw [List.length_map]; omega)
    simp only [b1__law_folded]
    (try simp only [BEq.rfl, ↓e_v0, ↓e_vs, ↓e_c, ↓e_op, ↓e_un, ↓e_test, ↓e_testK, ↓e_tru, ↓e_truL, ↓e_truT, ↓e_truB, ↓e_truI, ↓e_truN, ↓e_truS, ↓e_not, ↓e_and, ↓e_or, ↓e_andv, ↓e_orv, ↓e_notv, ↓e_andK, ↓e_orK, ↓e_notK, ↓e_if, ↓e_nil, ↓e_cons, ↓e_tup, ↓e_lst, ↓e_new, ↓e_call, ↓e_callK, ↓e_drop, ↓e_ret, ↓e_retN, ↓e_pass, ↓e_ifS, ↓e_g0, ↓e_gs, ↓e_gnil, ↓e_gcons, ↓e_gtup, ↓e_asg, ↓e_par, ↓e_parK, ↓e_par3, ↓e_par3K, ↓e_chain, ↓e_chK, ↓e_no, ↓e_some, ↓e_someK, ↓e_cut, ↓e_b, ↓e_iter, ↓e_iterL, ↓e_iterT, ↓e_iterS, ↓e_rng1, ↓e_rng1K, ↓e_rng2, ↓e_rng2K, ↓e_rng3, ↓e_rng3K, ↓e_enum, ↓e_enumL, ↓e_enumT, ↓e_zip, ↓e_zipL, ↓e_zipT, ↓e_zipM, ↓e_zipMK, ↓e_zipS, ↓e_zipSK, ↓e_for, ↓e_lc, ↓e_lcNew, ↓e_forN, ↓e_forC, ↓e_lcN, ↓e_lcC, ↓e_srcN, ↓e_srcC, ↓e_meth, ↓e_isL, ↓e_sub, ↓e_aug, ↓e_augK, ↓e_isi, ↓e_yes, ↓e_bits, ↓e_bitsK, ↓e_cLast, ↓e_cLink, ↓e_cK, ↓e_cNext, ↓e_testCh, ↓e_addI, ↓e_addB, ↓e_addS, ↓e_addT, ↓e_addL, ↓e_subI, ↓e_mulI, ↓e_mulT, ↓e_mulL, ↓e_divI, ↓e_modI, ↓e_powI, ↓e_negI, ↓e_iadd, ↓e_cmpI, ↓e_eq, ↓e_ne, ↓e_isn, ↓e_isnn, ↓e_isb, ↓e_ixL, ↓e_ixKL, ↓e_ixT, ↓e_cutL, ↓e_cutKL, ↓e_cutT, ↓e_lenL, ↓e_lenKL, ↓e_lenT, ↓e_abs, ↓e_intI, ↓e_intB, ↓e_max2, ↓e_min2, ↓e_listL, ↓e_listT, ↓e_listNL, ↓e_listNT, ↓e_tupL, ↓e_tupT, ↓e_sum1T, ↓e_sum1L, ↓e_max1T, ↓e_max1L, ↓e_drI, ↓e_drB, ↓e_drS, ↓e_drN, ↓e_drL, ↓e_drT, ↓e_seq, ↓e_back, ↓e_backL, ↓e_backT, ↓e_sortedL, ↓e_sortedNL, ↓e_divmod, ↓e_lr1, ↓e_lr1K, ↓e_lr2, ↓e_lr2K, ↓e_lr3, ↓e_lr3K, ↓e_revR1, ↓e_revR1K, ↓e_srtSet, ↓e_unlL, ↓e_inL, ↓e_inKL, ↓e_inT, ↓e_inFlat, ↓e_drK, ↓e_srtSetL, ↓e_lenSet, ↓e_lenSetL, ↓e_enumF, ↓e_enumFT, ↓e_reprL, ↓e_reprT, ↓e_reprI, ↓e_reprB, ↓e_reprN, ↓e_reprS, ↓e_strI, ↓e_isub, ↓e_strB, ↓e_addBI, ↓e_subBI, ↓e_subIB, ↓e_drG, ↓e_dnew, ↓e_dgetF, ↓e_dget1, ↓e_dget2, ↓e_dsetdS, ↓e_dgPut, ↓e_lenSetZ, ↓e_lenSetZL, e_kyI, e_kyS, Nat.reduceAdd, Nat.zero_add, List.length_cons, List.length_nil, List.length_map, Nat.reduceLeDiff, and_true, true_and, if_true, ite_true, decide_eq_true_eq, Bool.not_eq_true, Bool.false_eq_true, if_false, ite_false, ↓reduceIte, Int.reduceToNat, Int.reducePow, ne_eq, q_okI, q_okB, q_okN, q_okS, q_okL, q_okT, q_oks0, q_oks1, q_eqII, q_eqBB, q_eqSS, q_eqLL, q_eqTT, q_eqNN, q_eqNI, q_eqIN, q_eqs0, q_eqs1, Bool.true_and, Bool.and_true, beq_iff_eq, reduceCtorEq, wipeE, List.set_cons_zero, List.set_cons_succ, List.set_nil, Bool.not_true, Bool.not_false, List.getElem?_cons_zero, List.getElem?_cons_succ, e_ixO (List.getElem?_concat_length ..), e_setO (List.getElem?_concat_length ..)])
    refine ⟨by omega, _, ea, ?_⟩
    (try simp only [BEq.rfl, ↓e_v0, ↓e_vs, ↓e_c, ↓e_op, ↓e_un, ↓e_test, ↓e_testK, ↓e_tru, ↓e_truL, ↓e_truT, ↓e_truB, ↓e_truI, ↓e_truN, ↓e_truS, ↓e_not, ↓e_and, ↓e_or, ↓e_andv, ↓e_orv, ↓e_notv, ↓e_andK, ↓e_orK, ↓e_notK, ↓e_if, ↓e_nil, ↓e_cons, ↓e_tup, ↓e_lst, ↓e_new, ↓e_call, ↓e_callK, ↓e_drop, ↓e_ret, ↓e_retN, ↓e_pass, ↓e_ifS, ↓e_g0, ↓e_gs, ↓e_gnil, ↓e_gcons, ↓e_gtup, ↓e_asg, ↓e_par, ↓e_parK, ↓e_par3, ↓e_par3K, ↓e_chain, ↓e_chK, ↓e_no, ↓e_some, ↓e_someK, ↓e_cut, ↓e_b, ↓e_iter, ↓e_iterL, ↓e_iterT, ↓e_iterS, ↓e_rng1, ↓e_rng1K, ↓e_rng2, ↓e_rng2K, ↓e_rng3, ↓e_rng3K, ↓e_enum, ↓e_enumL, ↓e_enumT, ↓e_zip, ↓e_zipL, ↓e_zipT, ↓e_zipM, ↓e_zipMK, ↓e_zipS, ↓e_zipSK, ↓e_for, ↓e_lc, ↓e_lcNew, ↓e_forN, ↓e_forC, ↓e_lcN, ↓e_lcC, ↓e_srcN, ↓e_srcC, ↓e_meth, ↓e_isL, ↓e_sub, ↓e_aug, ↓e_augK, ↓e_isi, ↓e_yes, ↓e_bits, ↓e_bitsK, ↓e_cLast, ↓e_cLink, ↓e_cK, ↓e_cNext, ↓e_testCh, ↓e_addI, ↓e_addB, ↓e_addS, ↓e_addT, ↓e_addL, ↓e_subI, ↓e_mulI, ↓e_mulT, ↓e_mulL, ↓e_divI, ↓e_modI, ↓e_powI, ↓e_negI, ↓e_iadd, ↓e_cmpI, ↓e_eq, ↓e_ne, ↓e_isn, ↓e_isnn, ↓e_isb, ↓e_ixL, ↓e_ixKL, ↓e_ixT, ↓e_cutL, ↓e_cutKL, ↓e_cutT, ↓e_lenL, ↓e_lenKL, ↓e_lenT, ↓e_abs, ↓e_intI, ↓e_intB, ↓e_max2, ↓e_min2, ↓e_listL, ↓e_listT, ↓e_listNL, ↓e_listNT, ↓e_tupL, ↓e_tupT, ↓e_sum1T, ↓e_sum1L, ↓e_max1T, ↓e_max1L, ↓e_drI, ↓e_drB, ↓e_drS, ↓e_drN, ↓e_drL, ↓e_drT, ↓e_seq, ↓e_back, ↓e_backL, ↓e_backT, ↓e_sortedL, ↓e_sortedNL, ↓e_divmod, ↓e_lr1, ↓e_lr1K, ↓e_lr2, ↓e_lr2K, ↓e_lr3, ↓e_lr3K, ↓e_revR1, ↓e_revR1K, ↓e_srtSet, ↓e_unlL, ↓e_inL, ↓e_inKL, ↓e_inT, ↓e_inFlat, ↓e_drK, ↓e_srtSetL, ↓e_lenSet, ↓e_lenSetL, ↓e_enumF, ↓e_enumFT, ↓e_reprL, ↓e_reprT, ↓e_reprI, ↓e_reprB, ↓e_reprN, ↓e_reprS, ↓e_strI, ↓e_isub, ↓e_strB, ↓e_addBI, ↓e_subBI, ↓e_subIB, ↓e_drG, ↓e_dnew, ↓e_dgetF, ↓e_dget1, ↓e_dget2, ↓e_dsetdS, ↓e_dgPut, ↓e_lenSetZ, ↓e_lenSetZL, e_kyI, e_kyS, Nat.reduceAdd, Nat.zero_add, List.length_cons, List.length_nil, List.length_map, Nat.reduceLeDiff, and_true, true_and, if_true, ite_true, decide_eq_true_eq, Bool.not_eq_true, Bool.false_eq_true, if_false, ite_false, ↓reduceIte, Int.reduceToNat, Int.reducePow, ne_eq, q_okI, q_okB, q_okN, q_okS, q_okL, q_okT, q_oks0, q_oks1, q_eqII, q_eqBB, q_eqSS, q_eqLL, q_eqTT, q_eqNN, q_eqNI, q_eqIN, q_eqs0, q_eqs1, Bool.true_and, Bool.and_true, beq_iff_eq, reduceCtorEq, wipeE, List.set_cons_zero, List.set_cons_succ, List.set_nil, Bool.not_true, Bool.not_false, List.getElem?_cons_zero, List.getElem?_cons_succ, e_ixO (List.getElem?_concat_length ..), e_setO (List.getElem?_concat_length ..)])
    refine ⟨mulr _ _ (by omega) (by simp only [List.length_cons] at hk; omega), by omega, _, by rw [List.length_map] at ei; exact ei, ?_⟩
    rw [set_last, map_set_int]
    refine folded_loop rt a0 m hm st kk rs (k + 1) _ _ _ (fun _ => by rw [List.length_set]; exact hc) (by simp only [List.length_cons] at hk; omega) fun cs' u3 u4 e => h cs' u3 u4 (by rw [e, List.length_set])
def sp__law_folded : SpD := fun ds st kk => ∃ (ns : List Int) (m : Nat), ds = [.klst (ns.map D.int), .int m] ∧ 1 ≤ m ∧ m ≤ 60 ∧ ns.length ≤ 63 ∧ ∀ cs : List Int, cs.length = min m ns.length → kk (.lst (cs.map D.int)) st
theorem len__law_folded (ds : List D) (st : Sto) (kk : DK) (h : sp__law_folded ds st kk) : ds.length = 2 := by
  obtain ⟨ns, m, rfl, _⟩ := h
  rfl
theorem p__law_folded : BodyD true N__law_folded sp__law_folded t__law_folded := by
  rintro ds st kk ⟨ns, m, rfl, h1, h2, h3, h⟩
  rw [st__law_folded]
  simp only [t__law_folded]
  (try simp only [BEq.rfl, ↓e_v0, ↓e_vs, ↓e_c, ↓e_op, ↓e_un, ↓e_test, ↓e_testK, ↓e_tru, ↓e_truL, ↓e_truT, ↓e_truB, ↓e_truI, ↓e_truN, ↓e_truS, ↓e_not, ↓e_and, ↓e_or, ↓e_andv, ↓e_orv, ↓e_notv, ↓e_andK, ↓e_orK, ↓e_notK, ↓e_if, ↓e_nil, ↓e_cons, ↓e_tup, ↓e_lst, ↓e_new, ↓e_call, ↓e_callK, ↓e_drop, ↓e_ret, ↓e_retN, ↓e_pass, ↓e_ifS, ↓e_g0, ↓e_gs, ↓e_gnil, ↓e_gcons, ↓e_gtup, ↓e_asg, ↓e_par, ↓e_parK, ↓e_par3, ↓e_par3K, ↓e_chain, ↓e_chK, ↓e_no, ↓e_some, ↓e_someK, ↓e_cut, ↓e_b, ↓e_iter, ↓e_iterL, ↓e_iterT, ↓e_iterS, ↓e_rng1, ↓e_rng1K, ↓e_rng2, ↓e_rng2K, ↓e_rng3, ↓e_rng3K, ↓e_enum, ↓e_enumL, ↓e_enumT, ↓e_zip, ↓e_zipL, ↓e_zipT, ↓e_zipM, ↓e_zipMK, ↓e_zipS, ↓e_zipSK, ↓e_for, ↓e_lc, ↓e_lcNew, ↓e_forN, ↓e_forC, ↓e_lcN, ↓e_lcC, ↓e_srcN, ↓e_srcC, ↓e_meth, ↓e_isL, ↓e_sub, ↓e_aug, ↓e_augK, ↓e_isi, ↓e_yes, ↓e_bits, ↓e_bitsK, ↓e_cLast, ↓e_cLink, ↓e_cK, ↓e_cNext, ↓e_testCh, ↓e_addI, ↓e_addB, ↓e_addS, ↓e_addT, ↓e_addL, ↓e_subI, ↓e_mulI, ↓e_mulT, ↓e_mulL, ↓e_divI, ↓e_modI, ↓e_powI, ↓e_negI, ↓e_iadd, ↓e_cmpI, ↓e_eq, ↓e_ne, ↓e_isn, ↓e_isnn, ↓e_isb, ↓e_ixL, ↓e_ixKL, ↓e_ixT, ↓e_cutL, ↓e_cutKL, ↓e_cutT, ↓e_lenL, ↓e_lenKL, ↓e_lenT, ↓e_abs, ↓e_intI, ↓e_intB, ↓e_max2, ↓e_min2, ↓e_listL, ↓e_listT, ↓e_listNL, ↓e_listNT, ↓e_tupL, ↓e_tupT, ↓e_sum1T, ↓e_sum1L, ↓e_max1T, ↓e_max1L, ↓e_drI, ↓e_drB, ↓e_drS, ↓e_drN, ↓e_drL, ↓e_drT, ↓e_seq, ↓e_back, ↓e_backL, ↓e_backT, ↓e_sortedL, ↓e_sortedNL, ↓e_divmod, ↓e_lr1, ↓e_lr1K, ↓e_lr2, ↓e_lr2K, ↓e_lr3, ↓e_lr3K, ↓e_revR1, ↓e_revR1K, ↓e_srtSet, ↓e_unlL, ↓e_inL, ↓e_inKL, ↓e_inT, ↓e_inFlat, ↓e_drK, ↓e_srtSetL, ↓e_lenSet, ↓e_lenSetL, ↓e_enumF, ↓e_enumFT, ↓e_reprL, ↓e_reprT, ↓e_reprI, ↓e_reprB, ↓e_reprN, ↓e_reprS, ↓e_strI, ↓e_isub, ↓e_strB, ↓e_addBI, ↓e_subBI, ↓e_subIB, ↓e_drG, ↓e_dnew, ↓e_dgetF, ↓e_dget1, ↓e_dget2, ↓e_dsetdS, ↓e_dgPut, ↓e_lenSetZ, ↓e_lenSetZL, e_kyI, e_kyS, Nat.reduceAdd, Nat.zero_add, List.length_cons, List.length_nil, List.length_map, Nat.reduceLeDiff, and_true, true_and, if_true, ite_true, decide_eq_true_eq, Bool.not_eq_true, Bool.false_eq_true, if_false, ite_false, ↓reduceIte, Int.reduceToNat, Int.reducePow, ne_eq, q_okI, q_okB, q_okN, q_okS, q_okL, q_okT, q_oks0, q_oks1, q_eqII, q_eqBB, q_eqSS, q_eqLL, q_eqTT, q_eqNN, q_eqNI, q_eqIN, q_eqs0, q_eqs1, Bool.true_and, Bool.and_true, beq_iff_eq, reduceCtorEq, wipeE, List.set_cons_zero, List.set_cons_succ, List.set_nil, Bool.not_true, Bool.not_false, List.getElem?_cons_zero, List.getElem?_cons_succ, cutD_map])
  rw [cutD_to, show (63 : Int) = ((63 : Nat) : Int) from rfl, cutD_from]
  intro _
  refine folded_loop _ _ m h1 st _ _ 0 _ _ _ (fun ne => ?_) (by simp; omega) fun cs' u3 u4 e => ?_
  · rw [List.length_take]
    have : m < ns.length := by
      apply Nat.lt_of_not_le
      intro z
      exact ne (by rw [List.drop_eq_nil_of_le z]; simp)
    omega
  · (try simp only [BEq.rfl, ↓e_v0, ↓e_vs, ↓e_c, ↓e_op, ↓e_un, ↓e_test, ↓e_testK, ↓e_tru, ↓e_truL, ↓e_truT, ↓e_truB, ↓e_truI, ↓e_truN, ↓e_truS, ↓e_not, ↓e_and, ↓e_or, ↓e_andv, ↓e_orv, ↓e_notv, ↓e_andK, ↓e_orK, ↓e_notK, ↓e_if, ↓e_nil, ↓e_cons, ↓e_tup, ↓e_lst, ↓e_new, ↓e_call, ↓e_callK, ↓e_drop, ↓e_ret, ↓e_retN, ↓e_pass, ↓e_ifS, ↓e_g0, ↓e_gs, ↓e_gnil, ↓e_gcons, ↓e_gtup, ↓e_asg, ↓e_par, ↓e_parK, ↓e_par3, ↓e_par3K, ↓e_chain, ↓e_chK, ↓e_no, ↓e_some, ↓e_someK, ↓e_cut, ↓e_b, ↓e_iter, ↓e_iterL, ↓e_iterT, ↓e_iterS, ↓e_rng1, ↓e_rng1K, ↓e_rng2, ↓e_rng2K, ↓e_rng3, ↓e_rng3K, ↓e_enum, ↓e_enumL, ↓e_enumT, ↓e_zip, ↓e_zipL, ↓e_zipT, ↓e_zipM, ↓e_zipMK, ↓e_zipS, ↓e_zipSK, ↓e_for, ↓e_lc, ↓e_lcNew, ↓e_forN, ↓e_forC, ↓e_lcN, ↓e_lcC, ↓e_srcN, ↓e_srcC, ↓e_meth, ↓e_isL, ↓e_sub, ↓e_aug, ↓e_augK, ↓e_isi, ↓e_yes, ↓e_bits, ↓e_bitsK, ↓e_cLast, ↓e_cLink, ↓e_cK, ↓e_cNext, ↓e_testCh, ↓e_addI, ↓e_addB, ↓e_addS, ↓e_addT, ↓e_addL, ↓e_subI, ↓e_mulI, ↓e_mulT, ↓e_mulL, ↓e_divI, ↓e_modI, ↓e_powI, ↓e_negI, ↓e_iadd, ↓e_cmpI, ↓e_eq, ↓e_ne, ↓e_isn, ↓e_isnn, ↓e_isb, ↓e_ixL, ↓e_ixKL, ↓e_ixT, ↓e_cutL, ↓e_cutKL, ↓e_cutT, ↓e_lenL, ↓e_lenKL, ↓e_lenT, ↓e_abs, ↓e_intI, ↓e_intB, ↓e_max2, ↓e_min2, ↓e_listL, ↓e_listT, ↓e_listNL, ↓e_listNT, ↓e_tupL, ↓e_tupT, ↓e_sum1T, ↓e_sum1L, ↓e_max1T, ↓e_max1L, ↓e_drI, ↓e_drB, ↓e_drS, ↓e_drN, ↓e_drL, ↓e_drT, ↓e_seq, ↓e_back, ↓e_backL, ↓e_backT, ↓e_sortedL, ↓e_sortedNL, ↓e_divmod, ↓e_lr1, ↓e_lr1K, ↓e_lr2, ↓e_lr2K, ↓e_lr3, ↓e_lr3K, ↓e_revR1, ↓e_revR1K, ↓e_srtSet, ↓e_unlL, ↓e_inL, ↓e_inKL, ↓e_inT, ↓e_inFlat, ↓e_drK, ↓e_srtSetL, ↓e_lenSet, ↓e_lenSetL, ↓e_enumF, ↓e_enumFT, ↓e_reprL, ↓e_reprT, ↓e_reprI, ↓e_reprB, ↓e_reprN, ↓e_reprS, ↓e_strI, ↓e_isub, ↓e_strB, ↓e_addBI, ↓e_subBI, ↓e_subIB, ↓e_drG, ↓e_dnew, ↓e_dgetF, ↓e_dget1, ↓e_dget2, ↓e_dsetdS, ↓e_dgPut, ↓e_lenSetZ, ↓e_lenSetZL, e_kyI, e_kyS, Nat.reduceAdd, Nat.zero_add, List.length_cons, List.length_nil, List.length_map, Nat.reduceLeDiff, and_true, true_and, if_true, ite_true, decide_eq_true_eq, Bool.not_eq_true, Bool.false_eq_true, if_false, ite_false, ↓reduceIte, Int.reduceToNat, Int.reducePow, ne_eq, q_okI, q_okB, q_okN, q_okS, q_okL, q_okT, q_oks0, q_oks1, q_eqII, q_eqBB, q_eqSS, q_eqLL, q_eqTT, q_eqNN, q_eqNI, q_eqIN, q_eqs0, q_eqs1, Bool.true_and, Bool.and_true, beq_iff_eq, reduceCtorEq, wipeE, List.set_cons_zero, List.set_cons_succ, List.set_nil, Bool.not_true, Bool.not_false, List.getElem?_cons_zero, List.getElem?_cons_succ])
    refine .one (belows_int _ _) ?_
    simp only [sub, if_true]
    exact h cs' (by rw [e, List.length_take])
def t__law_weight : DS :=
    (dRet (dOp ixD (dLst (dCons (dOp addD (dC (.int 1)) (dCall sp__law_draw (dCons (dVar 0) (dCons (dVar 1) dNil)))) (dCons (dOp addD (dC (.int 1)) (dCall sp__law_draw (dCons (dVar 0) (dCons (dB bMin2 (dCons (dC (.int 3)) (dCons (dVar 1) dNil))) dNil)))) (dCons (dVar 1) (dCons (dC (.int 1)) dNil))))) (dCall sp__law_draw (dCons (dVar 0) (dCons (dC (.int 4)) dNil)))))
theorem st__law_weight (a0 a1 : D) : startD N__law_weight [a0, a1] = [some a0, some a1] := rfl
def sp__law_weight : SpD := fun ds st kk => ∃ (i n : Nat) (m : Int), ds = [.obj i, .int m] ∧ Tp i n st ∧ n < 900000000000 ∧ 1 ≤ m ∧ m < 1000000000000 ∧ ∀ (r : Int) xs, 1 ≤ r → r ≤ m → Tp i (n + 3) (st.set i xs) → kk (.int r) (st.set i xs)
theorem len__law_weight (ds : List D) (st : Sto) (kk : DK) (h : sp__law_weight ds st kk) : ds.length = 2 := by
  obtain ⟨i, n, m, rfl, _⟩ := h
  rfl
theorem p__law_weight : BodyD false N__law_weight sp__law_weight t__law_weight := by
  rintro ds st kk ⟨i, n, m, rfl, ht, hn, h1, h2, h⟩
  rw [st__law_weight]
  simp only [t__law_weight]
  (try simp only [BEq.rfl, ↓e_v0, ↓e_vs, ↓e_c, ↓e_op, ↓e_un, ↓e_test, ↓e_testK, ↓e_tru, ↓e_truL, ↓e_truT, ↓e_truB, ↓e_truI, ↓e_truN, ↓e_truS, ↓e_not, ↓e_and, ↓e_or, ↓e_andv, ↓e_orv, ↓e_notv, ↓e_andK, ↓e_orK, ↓e_notK, ↓e_if, ↓e_nil, ↓e_cons, ↓e_tup, ↓e_lst, ↓e_new, ↓e_call, ↓e_callK, ↓e_drop, ↓e_ret, ↓e_retN, ↓e_pass, ↓e_ifS, ↓e_g0, ↓e_gs, ↓e_gnil, ↓e_gcons, ↓e_gtup, ↓e_asg, ↓e_par, ↓e_parK, ↓e_par3, ↓e_par3K, ↓e_chain, ↓e_chK, ↓e_no, ↓e_some, ↓e_someK, ↓e_cut, ↓e_b, ↓e_iter, ↓e_iterL, ↓e_iterT, ↓e_iterS, ↓e_rng1, ↓e_rng1K, ↓e_rng2, ↓e_rng2K, ↓e_rng3, ↓e_rng3K, ↓e_enum, ↓e_enumL, ↓e_enumT, ↓e_zip, ↓e_zipL, ↓e_zipT, ↓e_zipM, ↓e_zipMK, ↓e_zipS, ↓e_zipSK, ↓e_for, ↓e_lc, ↓e_lcNew, ↓e_forN, ↓e_forC, ↓e_lcN, ↓e_lcC, ↓e_srcN, ↓e_srcC, ↓e_meth, ↓e_isL, ↓e_sub, ↓e_aug, ↓e_augK, ↓e_isi, ↓e_yes, ↓e_bits, ↓e_bitsK, ↓e_cLast, ↓e_cLink, ↓e_cK, ↓e_cNext, ↓e_testCh, ↓e_addI, ↓e_addB, ↓e_addS, ↓e_addT, ↓e_addL, ↓e_subI, ↓e_mulI, ↓e_mulT, ↓e_mulL, ↓e_divI, ↓e_modI, ↓e_powI, ↓e_negI, ↓e_iadd, ↓e_cmpI, ↓e_eq, ↓e_ne, ↓e_isn, ↓e_isnn, ↓e_isb, ↓e_ixL, ↓e_ixKL, ↓e_ixT, ↓e_cutL, ↓e_cutKL, ↓e_cutT, ↓e_lenL, ↓e_lenKL, ↓e_lenT, ↓e_abs, ↓e_intI, ↓e_intB, ↓e_max2, ↓e_min2, ↓e_listL, ↓e_listT, ↓e_listNL, ↓e_listNT, ↓e_tupL, ↓e_tupT, ↓e_sum1T, ↓e_sum1L, ↓e_max1T, ↓e_max1L, ↓e_drI, ↓e_drB, ↓e_drS, ↓e_drN, ↓e_drL, ↓e_drT, ↓e_seq, ↓e_back, ↓e_backL, ↓e_backT, ↓e_sortedL, ↓e_sortedNL, ↓e_divmod, ↓e_lr1, ↓e_lr1K, ↓e_lr2, ↓e_lr2K, ↓e_lr3, ↓e_lr3K, ↓e_revR1, ↓e_revR1K, ↓e_srtSet, ↓e_unlL, ↓e_inL, ↓e_inKL, ↓e_inT, ↓e_inFlat, ↓e_drK, ↓e_srtSetL, ↓e_lenSet, ↓e_lenSetL, ↓e_enumF, ↓e_enumFT, ↓e_reprL, ↓e_reprT, ↓e_reprI, ↓e_reprB, ↓e_reprN, ↓e_reprS, ↓e_strI, ↓e_isub, ↓e_strB, ↓e_addBI, ↓e_subBI, ↓e_subIB, ↓e_drG, ↓e_dnew, ↓e_dgetF, ↓e_dget1, ↓e_dget2, ↓e_dsetdS, ↓e_dgPut, ↓e_lenSetZ, ↓e_lenSetZL, e_kyI, e_kyS, Nat.reduceAdd, Nat.zero_add, List.length_cons, List.length_nil, List.length_map, Nat.reduceLeDiff, and_true, true_and, if_true, ite_true, decide_eq_true_eq, Bool.not_eq_true, Bool.false_eq_true, if_false, ite_false, ↓reduceIte, Int.reduceToNat, Int.reducePow, ne_eq, q_okI, q_okB, q_okN, q_okS, q_okL, q_okT, q_oks0, q_oks1, q_eqII, q_eqBB, q_eqSS, q_eqLL, q_eqTT, q_eqNN, q_eqNI, q_eqIN, q_eqs0, q_eqs1, Bool.true_and, Bool.and_true, beq_iff_eq, reduceCtorEq, wipeE, List.set_cons_zero, List.set_cons_succ, List.set_nil, Bool.not_true, Bool.not_false, List.getElem?_cons_zero, List.getElem?_cons_succ])
  refine ⟨i, n, m, rfl, ht, by omega, ⟨h1, by omega⟩, fun r1 x1 a1 b1 t1 => ?_⟩
  (try simp only [BEq.rfl, ↓e_v0, ↓e_vs, ↓e_c, ↓e_op, ↓e_un, ↓e_test, ↓e_testK, ↓e_tru, ↓e_truL, ↓e_truT, ↓e_truB, ↓e_truI, ↓e_truN, ↓e_truS, ↓e_not, ↓e_and, ↓e_or, ↓e_andv, ↓e_orv, ↓e_notv, ↓e_andK, ↓e_orK, ↓e_notK, ↓e_if, ↓e_nil, ↓e_cons, ↓e_tup, ↓e_lst, ↓e_new, ↓e_call, ↓e_callK, ↓e_drop, ↓e_ret, ↓e_retN, ↓e_pass, ↓e_ifS, ↓e_g0, ↓e_gs, ↓e_gnil, ↓e_gcons, ↓e_gtup, ↓e_asg, ↓e_par, ↓e_parK, ↓e_par3, ↓e_par3K, ↓e_chain, ↓e_chK, ↓e_no, ↓e_some, ↓e_someK, ↓e_cut, ↓e_b, ↓e_iter, ↓e_iterL, ↓e_iterT, ↓e_iterS, ↓e_rng1, ↓e_rng1K, ↓e_rng2, ↓e_rng2K, ↓e_rng3, ↓e_rng3K, ↓e_enum, ↓e_enumL, ↓e_enumT, ↓e_zip, ↓e_zipL, ↓e_zipT, ↓e_zipM, ↓e_zipMK, ↓e_zipS, ↓e_zipSK, ↓e_for, ↓e_lc, ↓e_lcNew, ↓e_forN, ↓e_forC, ↓e_lcN, ↓e_lcC, ↓e_srcN, ↓e_srcC, ↓e_meth, ↓e_isL, ↓e_sub, ↓e_aug, ↓e_augK, ↓e_isi, ↓e_yes, ↓e_bits, ↓e_bitsK, ↓e_cLast, ↓e_cLink, ↓e_cK, ↓e_cNext, ↓e_testCh, ↓e_addI, ↓e_addB, ↓e_addS, ↓e_addT, ↓e_addL, ↓e_subI, ↓e_mulI, ↓e_mulT, ↓e_mulL, ↓e_divI, ↓e_modI, ↓e_powI, ↓e_negI, ↓e_iadd, ↓e_cmpI, ↓e_eq, ↓e_ne, ↓e_isn, ↓e_isnn, ↓e_isb, ↓e_ixL, ↓e_ixKL, ↓e_ixT, ↓e_cutL, ↓e_cutKL, ↓e_cutT, ↓e_lenL, ↓e_lenKL, ↓e_lenT, ↓e_abs, ↓e_intI, ↓e_intB, ↓e_max2, ↓e_min2, ↓e_listL, ↓e_listT, ↓e_listNL, ↓e_listNT, ↓e_tupL, ↓e_tupT, ↓e_sum1T, ↓e_sum1L, ↓e_max1T, ↓e_max1L, ↓e_drI, ↓e_drB, ↓e_drS, ↓e_drN, ↓e_drL, ↓e_drT, ↓e_seq, ↓e_back, ↓e_backL, ↓e_backT, ↓e_sortedL, ↓e_sortedNL, ↓e_divmod, ↓e_lr1, ↓e_lr1K, ↓e_lr2, ↓e_lr2K, ↓e_lr3, ↓e_lr3K, ↓e_revR1, ↓e_revR1K, ↓e_srtSet, ↓e_unlL, ↓e_inL, ↓e_inKL, ↓e_inT, ↓e_inFlat, ↓e_drK, ↓e_srtSetL, ↓e_lenSet, ↓e_lenSetL, ↓e_enumF, ↓e_enumFT, ↓e_reprL, ↓e_reprT, ↓e_reprI, ↓e_reprB, ↓e_reprN, ↓e_reprS, ↓e_strI, ↓e_isub, ↓e_strB, ↓e_addBI, ↓e_subBI, ↓e_subIB, ↓e_drG, ↓e_dnew, ↓e_dgetF, ↓e_dget1, ↓e_dget2, ↓e_dsetdS, ↓e_dgPut, ↓e_lenSetZ, ↓e_lenSetZL, e_kyI, e_kyS, Nat.reduceAdd, Nat.zero_add, List.length_cons, List.length_nil, List.length_map, Nat.reduceLeDiff, and_true, true_and, if_true, ite_true, decide_eq_true_eq, Bool.not_eq_true, Bool.false_eq_true, if_false, ite_false, ↓reduceIte, Int.reduceToNat, Int.reducePow, ne_eq, q_okI, q_okB, q_okN, q_okS, q_okL, q_okT, q_oks0, q_oks1, q_eqII, q_eqBB, q_eqSS, q_eqLL, q_eqTT, q_eqNN, q_eqNI, q_eqIN, q_eqs0, q_eqs1, Bool.true_and, Bool.and_true, beq_iff_eq, reduceCtorEq, wipeE, List.set_cons_zero, List.set_cons_succ, List.set_nil, Bool.not_true, Bool.not_false, List.getElem?_cons_zero, List.getElem?_cons_succ])
  refine ⟨i, n + 1, _, rfl, t1, by omega, ⟨by split <;> omega, by split <;> omega⟩, fun r2 x2 a2 b2 t2 => ?_⟩
  rw [List.set_set] at t2 ⊢
  (try simp only [BEq.rfl, ↓e_v0, ↓e_vs, ↓e_c, ↓e_op, ↓e_un, ↓e_test, ↓e_testK, ↓e_tru, ↓e_truL, ↓e_truT, ↓e_truB, ↓e_truI, ↓e_truN, ↓e_truS, ↓e_not, ↓e_and, ↓e_or, ↓e_andv, ↓e_orv, ↓e_notv, ↓e_andK, ↓e_orK, ↓e_notK, ↓e_if, ↓e_nil, ↓e_cons, ↓e_tup, ↓e_lst, ↓e_new, ↓e_call, ↓e_callK, ↓e_drop, ↓e_ret, ↓e_retN, ↓e_pass, ↓e_ifS, ↓e_g0, ↓e_gs, ↓e_gnil, ↓e_gcons, ↓e_gtup, ↓e_asg, ↓e_par, ↓e_parK, ↓e_par3, ↓e_par3K, ↓e_chain, ↓e_chK, ↓e_no, ↓e_some, ↓e_someK, ↓e_cut, ↓e_b, ↓e_iter, ↓e_iterL, ↓e_iterT, ↓e_iterS, ↓e_rng1, ↓e_rng1K, ↓e_rng2, ↓e_rng2K, ↓e_rng3, ↓e_rng3K, ↓e_enum, ↓e_enumL, ↓e_enumT, ↓e_zip, ↓e_zipL, ↓e_zipT, ↓e_zipM, ↓e_zipMK, ↓e_zipS, ↓e_zipSK, ↓e_for, ↓e_lc, ↓e_lcNew, ↓e_forN, ↓e_forC, ↓e_lcN, ↓e_lcC, ↓e_srcN, ↓e_srcC, ↓e_meth, ↓e_isL, ↓e_sub, ↓e_aug, ↓e_augK, ↓e_isi, ↓e_yes, ↓e_bits, ↓e_bitsK, ↓e_cLast, ↓e_cLink, ↓e_cK, ↓e_cNext, ↓e_testCh, ↓e_addI, ↓e_addB, ↓e_addS, ↓e_addT, ↓e_addL, ↓e_subI, ↓e_mulI, ↓e_mulT, ↓e_mulL, ↓e_divI, ↓e_modI, ↓e_powI, ↓e_negI, ↓e_iadd, ↓e_cmpI, ↓e_eq, ↓e_ne, ↓e_isn, ↓e_isnn, ↓e_isb, ↓e_ixL, ↓e_ixKL, ↓e_ixT, ↓e_cutL, ↓e_cutKL, ↓e_cutT, ↓e_lenL, ↓e_lenKL, ↓e_lenT, ↓e_abs, ↓e_intI, ↓e_intB, ↓e_max2, ↓e_min2, ↓e_listL, ↓e_listT, ↓e_listNL, ↓e_listNT, ↓e_tupL, ↓e_tupT, ↓e_sum1T, ↓e_sum1L, ↓e_max1T, ↓e_max1L, ↓e_drI, ↓e_drB, ↓e_drS, ↓e_drN, ↓e_drL, ↓e_drT, ↓e_seq, ↓e_back, ↓e_backL, ↓e_backT, ↓e_sortedL, ↓e_sortedNL, ↓e_divmod, ↓e_lr1, ↓e_lr1K, ↓e_lr2, ↓e_lr2K, ↓e_lr3, ↓e_lr3K, ↓e_revR1, ↓e_revR1K, ↓e_srtSet, ↓e_unlL, ↓e_inL, ↓e_inKL, ↓e_inT, ↓e_inFlat, ↓e_drK, ↓e_srtSetL, ↓e_lenSet, ↓e_lenSetL, ↓e_enumF, ↓e_enumFT, ↓e_reprL, ↓e_reprT, ↓e_reprI, ↓e_reprB, ↓e_reprN, ↓e_reprS, ↓e_strI, ↓e_isub, ↓e_strB, ↓e_addBI, ↓e_subBI, ↓e_subIB, ↓e_drG, ↓e_dnew, ↓e_dgetF, ↓e_dget1, ↓e_dget2, ↓e_dsetdS, ↓e_dgPut, ↓e_lenSetZ, ↓e_lenSetZL, e_kyI, e_kyS, Nat.reduceAdd, Nat.zero_add, List.length_cons, List.length_nil, List.length_map, Nat.reduceLeDiff, and_true, true_and, if_true, ite_true, decide_eq_true_eq, Bool.not_eq_true, Bool.false_eq_true, if_false, ite_false, ↓reduceIte, Int.reduceToNat, Int.reducePow, ne_eq, q_okI, q_okB, q_okN, q_okS, q_okL, q_okT, q_oks0, q_oks1, q_eqII, q_eqBB, q_eqSS, q_eqLL, q_eqTT, q_eqNN, q_eqNI, q_eqIN, q_eqs0, q_eqs1, Bool.true_and, Bool.and_true, beq_iff_eq, reduceCtorEq, wipeE, List.set_cons_zero, List.set_cons_succ, List.set_nil, Bool.not_true, Bool.not_false, List.getElem?_cons_zero, List.getElem?_cons_succ])
  refine ⟨i, n + 2, 4, rfl, t2, by omega, ⟨by decide, by decide⟩, fun r3 x3 a3 b3 t3 => ?_⟩
  rw [List.set_set] at t3 ⊢
  (try simp only [BEq.rfl, ↓e_v0, ↓e_vs, ↓e_c, ↓e_op, ↓e_un, ↓e_test, ↓e_testK, ↓e_tru, ↓e_truL, ↓e_truT, ↓e_truB, ↓e_truI, ↓e_truN, ↓e_truS, ↓e_not, ↓e_and, ↓e_or, ↓e_andv, ↓e_orv, ↓e_notv, ↓e_andK, ↓e_orK, ↓e_notK, ↓e_if, ↓e_nil, ↓e_cons, ↓e_tup, ↓e_lst, ↓e_new, ↓e_call, ↓e_callK, ↓e_drop, ↓e_ret, ↓e_retN, ↓e_pass, ↓e_ifS, ↓e_g0, ↓e_gs, ↓e_gnil, ↓e_gcons, ↓e_gtup, ↓e_asg, ↓e_par, ↓e_parK, ↓e_par3, ↓e_par3K, ↓e_chain, ↓e_chK, ↓e_no, ↓e_some, ↓e_someK, ↓e_cut, ↓e_b, ↓e_iter, ↓e_iterL, ↓e_iterT, ↓e_iterS, ↓e_rng1, ↓e_rng1K, ↓e_rng2, ↓e_rng2K, ↓e_rng3, ↓e_rng3K, ↓e_enum, ↓e_enumL, ↓e_enumT, ↓e_zip, ↓e_zipL, ↓e_zipT, ↓e_zipM, ↓e_zipMK, ↓e_zipS, ↓e_zipSK, ↓e_for, ↓e_lc, ↓e_lcNew, ↓e_forN, ↓e_forC, ↓e_lcN, ↓e_lcC, ↓e_srcN, ↓e_srcC, ↓e_meth, ↓e_isL, ↓e_sub, ↓e_aug, ↓e_augK, ↓e_isi, ↓e_yes, ↓e_bits, ↓e_bitsK, ↓e_cLast, ↓e_cLink, ↓e_cK, ↓e_cNext, ↓e_testCh, ↓e_addI, ↓e_addB, ↓e_addS, ↓e_addT, ↓e_addL, ↓e_subI, ↓e_mulI, ↓e_mulT, ↓e_mulL, ↓e_divI, ↓e_modI, ↓e_powI, ↓e_negI, ↓e_iadd, ↓e_cmpI, ↓e_eq, ↓e_ne, ↓e_isn, ↓e_isnn, ↓e_isb, ↓e_ixL, ↓e_ixKL, ↓e_ixT, ↓e_cutL, ↓e_cutKL, ↓e_cutT, ↓e_lenL, ↓e_lenKL, ↓e_lenT, ↓e_abs, ↓e_intI, ↓e_intB, ↓e_max2, ↓e_min2, ↓e_listL, ↓e_listT, ↓e_listNL, ↓e_listNT, ↓e_tupL, ↓e_tupT, ↓e_sum1T, ↓e_sum1L, ↓e_max1T, ↓e_max1L, ↓e_drI, ↓e_drB, ↓e_drS, ↓e_drN, ↓e_drL, ↓e_drT, ↓e_seq, ↓e_back, ↓e_backL, ↓e_backT, ↓e_sortedL, ↓e_sortedNL, ↓e_divmod, ↓e_lr1, ↓e_lr1K, ↓e_lr2, ↓e_lr2K, ↓e_lr3, ↓e_lr3K, ↓e_revR1, ↓e_revR1K, ↓e_srtSet, ↓e_unlL, ↓e_inL, ↓e_inKL, ↓e_inT, ↓e_inFlat, ↓e_drK, ↓e_srtSetL, ↓e_lenSet, ↓e_lenSetL, ↓e_enumF, ↓e_enumFT, ↓e_reprL, ↓e_reprT, ↓e_reprI, ↓e_reprB, ↓e_reprN, ↓e_reprS, ↓e_strI, ↓e_isub, ↓e_strB, ↓e_addBI, ↓e_subBI, ↓e_subIB, ↓e_drG, ↓e_dnew, ↓e_dgetF, ↓e_dget1, ↓e_dget2, ↓e_dsetdS, ↓e_dgPut, ↓e_lenSetZ, ↓e_lenSetZL, e_kyI, e_kyS, Nat.reduceAdd, Nat.zero_add, List.length_cons, List.length_nil, List.length_map, Nat.reduceLeDiff, and_true, true_and, if_true, ite_true, decide_eq_true_eq, Bool.not_eq_true, Bool.false_eq_true, if_false, ite_false, ↓reduceIte, Int.reduceToNat, Int.reducePow, ne_eq, q_okI, q_okB, q_okN, q_okS, q_okL, q_okT, q_oks0, q_oks1, q_eqII, q_eqBB, q_eqSS, q_eqLL, q_eqTT, q_eqNN, q_eqNI, q_eqIN, q_eqs0, q_eqs1, Bool.true_and, Bool.and_true, beq_iff_eq, reduceCtorEq, wipeE, List.set_cons_zero, List.set_cons_succ, List.set_nil, Bool.not_true, Bool.not_false, List.getElem?_cons_zero, List.getElem?_cons_succ])
  have b2' : r2 < m := by
    split at b2 <;> omega
  rcases in4 a3 b3 with rfl | rfl | rfl | rfl
  · exact ⟨_, rfl, h _ _ (by omega) (by omega) t3⟩
  · exact ⟨_, rfl, h _ _ (by omega) (by omega) t3⟩
  · exact ⟨_, rfl, h _ _ (by omega) (by omega) t3⟩
  · exact ⟨_, rfl, h _ _ (by omega) (by omega) t3⟩
def e1__law_word : DE :=
    (dCall sp__law_weight (dCons (dVar 0) (dCons (dVar 2) dNil)))
def e2__law_word : DE :=
    (dOp ixD (dVar 5) (dOp modD (dVar 6) (dB bLen (dCons (dVar 5) dNil))))
def z3__law_word : DS :=
    (dRet (dB bTuple (dCons (dLc (dRng1 (dVar 3)) (dgName 6) dYes (e2__law_word) [6]) dNil)))
def z2__law_word : DS :=
    (dSeq (dAsg (dLc (dRng1 (dOp ixD (dLst (dCons (dVar 3) (dCons (dVar 3) (dCons (dVar 3) (dCons (dVar 3) (dCons (dC (.int 1)) (dCons (dC (.int 2)) dNil))))))) (dVar 4))) (dgName 6) dYes (e1__law_word) [6]) (dgName 5))
    (z3__law_word))
def t__law_word : DS :=
    (dSeq (dPar 3 4 (dCons (dOp addD (dC (.int 1)) (dCall sp__law_draw (dCons (dVar 0) (dCons (dVar 1) dNil)))) (dCons (dCall sp__law_draw (dCons (dVar 0) (dCons (dC (.int 6)) dNil))) dNil)))
    (z2__law_word))
theorem st__law_word (a0 a1 a2 : D) : startD N__law_word [a0, a1, a2] = [some a0, some a1, some a2, none, none, none, none] := rfl
theorem cyc_get {α : Type} {xs : List α} (h : 0 < xs.length) (j : Nat) : ∃ x ∈ xs, xs[j % xs.length]? = some x :=
  ⟨xs[j % xs.length]'(Nat.mod_lt _ h), List.getElem_mem _, List.getElem?_eq_getElem _⟩
def sp__law_word : SpD := fun ds st kk => ∃ (i n : Nat) (c h : Int), ds = [.obj i, .int c, .int h] ∧ Tp i n st ∧ n < 100000000 ∧ 1 ≤ c ∧ c ≤ 1000 ∧ 1 ≤ h ∧ h ≤ 1000 ∧ ∀ (ws : List Int) xs, Row ws c h → Tp i (n + 4000) (st.set i xs) → kk (.tup (ws.map D.int)) (st.set i xs)
theorem len__law_word (ds : List D) (st : Sto) (kk : DK) (h : sp__law_word ds st kk) : ds.length = 3 := by
  obtain ⟨i, n, c, m, rfl, _⟩ := h
  rfl
theorem p__law_word : BodyD false N__law_word sp__law_word t__law_word := by
  rintro ds st kk ⟨i, n, c, m, rfl, ht, hn, c1, c2, m1, m2, h⟩
  rw [st__law_word]
  simp only [t__law_word]
  (try simp only [BEq.rfl, ↓e_v0, ↓e_vs, ↓e_c, ↓e_op, ↓e_un, ↓e_test, ↓e_testK, ↓e_tru, ↓e_truL, ↓e_truT, ↓e_truB, ↓e_truI, ↓e_truN, ↓e_truS, ↓e_not, ↓e_and, ↓e_or, ↓e_andv, ↓e_orv, ↓e_notv, ↓e_andK, ↓e_orK, ↓e_notK, ↓e_if, ↓e_nil, ↓e_cons, ↓e_tup, ↓e_lst, ↓e_new, ↓e_call, ↓e_callK, ↓e_drop, ↓e_ret, ↓e_retN, ↓e_pass, ↓e_ifS, ↓e_g0, ↓e_gs, ↓e_gnil, ↓e_gcons, ↓e_gtup, ↓e_asg, ↓e_par, ↓e_parK, ↓e_par3, ↓e_par3K, ↓e_chain, ↓e_chK, ↓e_no, ↓e_some, ↓e_someK, ↓e_cut, ↓e_b, ↓e_iter, ↓e_iterL, ↓e_iterT, ↓e_iterS, ↓e_rng1, ↓e_rng1K, ↓e_rng2, ↓e_rng2K, ↓e_rng3, ↓e_rng3K, ↓e_enum, ↓e_enumL, ↓e_enumT, ↓e_zip, ↓e_zipL, ↓e_zipT, ↓e_zipM, ↓e_zipMK, ↓e_zipS, ↓e_zipSK, ↓e_for, ↓e_lc, ↓e_lcNew, ↓e_forN, ↓e_forC, ↓e_lcN, ↓e_lcC, ↓e_srcN, ↓e_srcC, ↓e_meth, ↓e_isL, ↓e_sub, ↓e_aug, ↓e_augK, ↓e_isi, ↓e_yes, ↓e_bits, ↓e_bitsK, ↓e_cLast, ↓e_cLink, ↓e_cK, ↓e_cNext, ↓e_testCh, ↓e_addI, ↓e_addB, ↓e_addS, ↓e_addT, ↓e_addL, ↓e_subI, ↓e_mulI, ↓e_mulT, ↓e_mulL, ↓e_divI, ↓e_modI, ↓e_powI, ↓e_negI, ↓e_iadd, ↓e_cmpI, ↓e_eq, ↓e_ne, ↓e_isn, ↓e_isnn, ↓e_isb, ↓e_ixL, ↓e_ixKL, ↓e_ixT, ↓e_cutL, ↓e_cutKL, ↓e_cutT, ↓e_lenL, ↓e_lenKL, ↓e_lenT, ↓e_abs, ↓e_intI, ↓e_intB, ↓e_max2, ↓e_min2, ↓e_listL, ↓e_listT, ↓e_listNL, ↓e_listNT, ↓e_tupL, ↓e_tupT, ↓e_sum1T, ↓e_sum1L, ↓e_max1T, ↓e_max1L, ↓e_drI, ↓e_drB, ↓e_drS, ↓e_drN, ↓e_drL, ↓e_drT, ↓e_seq, ↓e_back, ↓e_backL, ↓e_backT, ↓e_sortedL, ↓e_sortedNL, ↓e_divmod, ↓e_lr1, ↓e_lr1K, ↓e_lr2, ↓e_lr2K, ↓e_lr3, ↓e_lr3K, ↓e_revR1, ↓e_revR1K, ↓e_srtSet, ↓e_unlL, ↓e_inL, ↓e_inKL, ↓e_inT, ↓e_inFlat, ↓e_drK, ↓e_srtSetL, ↓e_lenSet, ↓e_lenSetL, ↓e_enumF, ↓e_enumFT, ↓e_reprL, ↓e_reprT, ↓e_reprI, ↓e_reprB, ↓e_reprN, ↓e_reprS, ↓e_strI, ↓e_isub, ↓e_strB, ↓e_addBI, ↓e_subBI, ↓e_subIB, ↓e_drG, ↓e_dnew, ↓e_dgetF, ↓e_dget1, ↓e_dget2, ↓e_dsetdS, ↓e_dgPut, ↓e_lenSetZ, ↓e_lenSetZL, e_kyI, e_kyS, Nat.reduceAdd, Nat.zero_add, List.length_cons, List.length_nil, List.length_map, Nat.reduceLeDiff, and_true, true_and, if_true, ite_true, decide_eq_true_eq, Bool.not_eq_true, Bool.false_eq_true, if_false, ite_false, ↓reduceIte, Int.reduceToNat, Int.reducePow, ne_eq, q_okI, q_okB, q_okN, q_okS, q_okL, q_okT, q_oks0, q_oks1, q_eqII, q_eqBB, q_eqSS, q_eqLL, q_eqTT, q_eqNN, q_eqNI, q_eqIN, q_eqs0, q_eqs1, Bool.true_and, Bool.and_true, beq_iff_eq, reduceCtorEq, wipeE, List.set_cons_zero, List.set_cons_succ, List.set_nil, Bool.not_true, Bool.not_false, List.getElem?_cons_zero, List.getElem?_cons_succ])
  refine ⟨i, n, c, rfl, ht, by omega, Big.s c1 (by omega), fun r1 x1 a1 b1 t1 => ?_⟩
  (try simp only [BEq.rfl, ↓e_v0, ↓e_vs, ↓e_c, ↓e_op, ↓e_un, ↓e_test, ↓e_testK, ↓e_tru, ↓e_truL, ↓e_truT, ↓e_truB, ↓e_truI, ↓e_truN, ↓e_truS, ↓e_not, ↓e_and, ↓e_or, ↓e_andv, ↓e_orv, ↓e_notv, ↓e_andK, ↓e_orK, ↓e_notK, ↓e_if, ↓e_nil, ↓e_cons, ↓e_tup, ↓e_lst, ↓e_new, ↓e_call, ↓e_callK, ↓e_drop, ↓e_ret, ↓e_retN, ↓e_pass, ↓e_ifS, ↓e_g0, ↓e_gs, ↓e_gnil, ↓e_gcons, ↓e_gtup, ↓e_asg, ↓e_par, ↓e_parK, ↓e_par3, ↓e_par3K, ↓e_chain, ↓e_chK, ↓e_no, ↓e_some, ↓e_someK, ↓e_cut, ↓e_b, ↓e_iter, ↓e_iterL, ↓e_iterT, ↓e_iterS, ↓e_rng1, ↓e_rng1K, ↓e_rng2, ↓e_rng2K, ↓e_rng3, ↓e_rng3K, ↓e_enum, ↓e_enumL, ↓e_enumT, ↓e_zip, ↓e_zipL, ↓e_zipT, ↓e_zipM, ↓e_zipMK, ↓e_zipS, ↓e_zipSK, ↓e_for, ↓e_lc, ↓e_lcNew, ↓e_forN, ↓e_forC, ↓e_lcN, ↓e_lcC, ↓e_srcN, ↓e_srcC, ↓e_meth, ↓e_isL, ↓e_sub, ↓e_aug, ↓e_augK, ↓e_isi, ↓e_yes, ↓e_bits, ↓e_bitsK, ↓e_cLast, ↓e_cLink, ↓e_cK, ↓e_cNext, ↓e_testCh, ↓e_addI, ↓e_addB, ↓e_addS, ↓e_addT, ↓e_addL, ↓e_subI, ↓e_mulI, ↓e_mulT, ↓e_mulL, ↓e_divI, ↓e_modI, ↓e_powI, ↓e_negI, ↓e_iadd, ↓e_cmpI, ↓e_eq, ↓e_ne, ↓e_isn, ↓e_isnn, ↓e_isb, ↓e_ixL, ↓e_ixKL, ↓e_ixT, ↓e_cutL, ↓e_cutKL, ↓e_cutT, ↓e_lenL, ↓e_lenKL, ↓e_lenT, ↓e_abs, ↓e_intI, ↓e_intB, ↓e_max2, ↓e_min2, ↓e_listL, ↓e_listT, ↓e_listNL, ↓e_listNT, ↓e_tupL, ↓e_tupT, ↓e_sum1T, ↓e_sum1L, ↓e_max1T, ↓e_max1L, ↓e_drI, ↓e_drB, ↓e_drS, ↓e_drN, ↓e_drL, ↓e_drT, ↓e_seq, ↓e_back, ↓e_backL, ↓e_backT, ↓e_sortedL, ↓e_sortedNL, ↓e_divmod, ↓e_lr1, ↓e_lr1K, ↓e_lr2, ↓e_lr2K, ↓e_lr3, ↓e_lr3K, ↓e_revR1, ↓e_revR1K, ↓e_srtSet, ↓e_unlL, ↓e_inL, ↓e_inKL, ↓e_inT, ↓e_inFlat, ↓e_drK, ↓e_srtSetL, ↓e_lenSet, ↓e_lenSetL, ↓e_enumF, ↓e_enumFT, ↓e_reprL, ↓e_reprT, ↓e_reprI, ↓e_reprB, ↓e_reprN, ↓e_reprS, ↓e_strI, ↓e_isub, ↓e_strB, ↓e_addBI, ↓e_subBI, ↓e_subIB, ↓e_drG, ↓e_dnew, ↓e_dgetF, ↓e_dget1, ↓e_dget2, ↓e_dsetdS, ↓e_dgPut, ↓e_lenSetZ, ↓e_lenSetZL, e_kyI, e_kyS, Nat.reduceAdd, Nat.zero_add, List.length_cons, List.length_nil, List.length_map, Nat.reduceLeDiff, and_true, true_and, if_true, ite_true, decide_eq_true_eq, Bool.not_eq_true, Bool.false_eq_true, if_false, ite_false, ↓reduceIte, Int.reduceToNat, Int.reducePow, ne_eq, q_okI, q_okB, q_okN, q_okS, q_okL, q_okT, q_oks0, q_oks1, q_eqII, q_eqBB, q_eqSS, q_eqLL, q_eqTT, q_eqNN, q_eqNI, q_eqIN, q_eqs0, q_eqs1, Bool.true_and, Bool.and_true, beq_iff_eq, reduceCtorEq, wipeE, List.set_cons_zero, List.set_cons_succ, List.set_nil, Bool.not_true, Bool.not_false, List.getElem?_cons_zero, List.getElem?_cons_succ])
  refine ⟨i, n + 1, 6, rfl, t1, by omega, ⟨by decide, by decide⟩, fun r2 x2 a2 b2 t2 => ?_⟩
  rw [List.set_set] at t2 ⊢
  (try simp only [BEq.rfl, ↓e_v0, ↓e_vs, ↓e_c, ↓e_op, ↓e_un, ↓e_test, ↓e_testK, ↓e_tru, ↓e_truL, ↓e_truT, ↓e_truB, ↓e_truI, ↓e_truN, ↓e_truS, ↓e_not, ↓e_and, ↓e_or, ↓e_andv, ↓e_orv, ↓e_notv, ↓e_andK, ↓e_orK, ↓e_notK, ↓e_if, ↓e_nil, ↓e_cons, ↓e_tup, ↓e_lst, ↓e_new, ↓e_call, ↓e_callK, ↓e_drop, ↓e_ret, ↓e_retN, ↓e_pass, ↓e_ifS, ↓e_g0, ↓e_gs, ↓e_gnil, ↓e_gcons, ↓e_gtup, ↓e_asg, ↓e_par, ↓e_parK, ↓e_par3, ↓e_par3K, ↓e_chain, ↓e_chK, ↓e_no, ↓e_some, ↓e_someK, ↓e_cut, ↓e_b, ↓e_iter, ↓e_iterL, ↓e_iterT, ↓e_iterS, ↓e_rng1, ↓e_rng1K, ↓e_rng2, ↓e_rng2K, ↓e_rng3, ↓e_rng3K, ↓e_enum, ↓e_enumL, ↓e_enumT, ↓e_zip, ↓e_zipL, ↓e_zipT, ↓e_zipM, ↓e_zipMK, ↓e_zipS, ↓e_zipSK, ↓e_for, ↓e_lc, ↓e_lcNew, ↓e_forN, ↓e_forC, ↓e_lcN, ↓e_lcC, ↓e_srcN, ↓e_srcC, ↓e_meth, ↓e_isL, ↓e_sub, ↓e_aug, ↓e_augK, ↓e_isi, ↓e_yes, ↓e_bits, ↓e_bitsK, ↓e_cLast, ↓e_cLink, ↓e_cK, ↓e_cNext, ↓e_testCh, ↓e_addI, ↓e_addB, ↓e_addS, ↓e_addT, ↓e_addL, ↓e_subI, ↓e_mulI, ↓e_mulT, ↓e_mulL, ↓e_divI, ↓e_modI, ↓e_powI, ↓e_negI, ↓e_iadd, ↓e_cmpI, ↓e_eq, ↓e_ne, ↓e_isn, ↓e_isnn, ↓e_isb, ↓e_ixL, ↓e_ixKL, ↓e_ixT, ↓e_cutL, ↓e_cutKL, ↓e_cutT, ↓e_lenL, ↓e_lenKL, ↓e_lenT, ↓e_abs, ↓e_intI, ↓e_intB, ↓e_max2, ↓e_min2, ↓e_listL, ↓e_listT, ↓e_listNL, ↓e_listNT, ↓e_tupL, ↓e_tupT, ↓e_sum1T, ↓e_sum1L, ↓e_max1T, ↓e_max1L, ↓e_drI, ↓e_drB, ↓e_drS, ↓e_drN, ↓e_drL, ↓e_drT, ↓e_seq, ↓e_back, ↓e_backL, ↓e_backT, ↓e_sortedL, ↓e_sortedNL, ↓e_divmod, ↓e_lr1, ↓e_lr1K, ↓e_lr2, ↓e_lr2K, ↓e_lr3, ↓e_lr3K, ↓e_revR1, ↓e_revR1K, ↓e_srtSet, ↓e_unlL, ↓e_inL, ↓e_inKL, ↓e_inT, ↓e_inFlat, ↓e_drK, ↓e_srtSetL, ↓e_lenSet, ↓e_lenSetL, ↓e_enumF, ↓e_enumFT, ↓e_reprL, ↓e_reprT, ↓e_reprI, ↓e_reprB, ↓e_reprN, ↓e_reprS, ↓e_strI, ↓e_isub, ↓e_strB, ↓e_addBI, ↓e_subBI, ↓e_subIB, ↓e_drG, ↓e_dnew, ↓e_dgetF, ↓e_dget1, ↓e_dget2, ↓e_dsetdS, ↓e_dgPut, ↓e_lenSetZ, ↓e_lenSetZL, e_kyI, e_kyS, Nat.reduceAdd, Nat.zero_add, List.length_cons, List.length_nil, List.length_map, Nat.reduceLeDiff, and_true, true_and, if_true, ite_true, decide_eq_true_eq, Bool.not_eq_true, Bool.false_eq_true, if_false, ite_false, ↓reduceIte, Int.reduceToNat, Int.reducePow, ne_eq, q_okI, q_okB, q_okN, q_okS, q_okL, q_okT, q_oks0, q_oks1, q_eqII, q_eqBB, q_eqSS, q_eqLL, q_eqTT, q_eqNN, q_eqNI, q_eqIN, q_eqs0, q_eqs1, Bool.true_and, Bool.and_true, beq_iff_eq, reduceCtorEq, wipeE, List.set_cons_zero, List.set_cons_succ, List.set_nil, Bool.not_true, Bool.not_false, List.getElem?_cons_zero, List.getElem?_cons_succ])
  simp only [z2__law_word]
  (try simp only [BEq.rfl, ↓e_v0, ↓e_vs, ↓e_c, ↓e_op, ↓e_un, ↓e_test, ↓e_testK, ↓e_tru, ↓e_truL, ↓e_truT, ↓e_truB, ↓e_truI, ↓e_truN, ↓e_truS, ↓e_not, ↓e_and, ↓e_or, ↓e_andv, ↓e_orv, ↓e_notv, ↓e_andK, ↓e_orK, ↓e_notK, ↓e_if, ↓e_nil, ↓e_cons, ↓e_tup, ↓e_lst, ↓e_new, ↓e_call, ↓e_callK, ↓e_drop, ↓e_ret, ↓e_retN, ↓e_pass, ↓e_ifS, ↓e_g0, ↓e_gs, ↓e_gnil, ↓e_gcons, ↓e_gtup, ↓e_asg, ↓e_par, ↓e_parK, ↓e_par3, ↓e_par3K, ↓e_chain, ↓e_chK, ↓e_no, ↓e_some, ↓e_someK, ↓e_cut, ↓e_b, ↓e_iter, ↓e_iterL, ↓e_iterT, ↓e_iterS, ↓e_rng1, ↓e_rng1K, ↓e_rng2, ↓e_rng2K, ↓e_rng3, ↓e_rng3K, ↓e_enum, ↓e_enumL, ↓e_enumT, ↓e_zip, ↓e_zipL, ↓e_zipT, ↓e_zipM, ↓e_zipMK, ↓e_zipS, ↓e_zipSK, ↓e_for, ↓e_lc, ↓e_lcNew, ↓e_forN, ↓e_forC, ↓e_lcN, ↓e_lcC, ↓e_srcN, ↓e_srcC, ↓e_meth, ↓e_isL, ↓e_sub, ↓e_aug, ↓e_augK, ↓e_isi, ↓e_yes, ↓e_bits, ↓e_bitsK, ↓e_cLast, ↓e_cLink, ↓e_cK, ↓e_cNext, ↓e_testCh, ↓e_addI, ↓e_addB, ↓e_addS, ↓e_addT, ↓e_addL, ↓e_subI, ↓e_mulI, ↓e_mulT, ↓e_mulL, ↓e_divI, ↓e_modI, ↓e_powI, ↓e_negI, ↓e_iadd, ↓e_cmpI, ↓e_eq, ↓e_ne, ↓e_isn, ↓e_isnn, ↓e_isb, ↓e_ixL, ↓e_ixKL, ↓e_ixT, ↓e_cutL, ↓e_cutKL, ↓e_cutT, ↓e_lenL, ↓e_lenKL, ↓e_lenT, ↓e_abs, ↓e_intI, ↓e_intB, ↓e_max2, ↓e_min2, ↓e_listL, ↓e_listT, ↓e_listNL, ↓e_listNT, ↓e_tupL, ↓e_tupT, ↓e_sum1T, ↓e_sum1L, ↓e_max1T, ↓e_max1L, ↓e_drI, ↓e_drB, ↓e_drS, ↓e_drN, ↓e_drL, ↓e_drT, ↓e_seq, ↓e_back, ↓e_backL, ↓e_backT, ↓e_sortedL, ↓e_sortedNL, ↓e_divmod, ↓e_lr1, ↓e_lr1K, ↓e_lr2, ↓e_lr2K, ↓e_lr3, ↓e_lr3K, ↓e_revR1, ↓e_revR1K, ↓e_srtSet, ↓e_unlL, ↓e_inL, ↓e_inKL, ↓e_inT, ↓e_inFlat, ↓e_drK, ↓e_srtSetL, ↓e_lenSet, ↓e_lenSetL, ↓e_enumF, ↓e_enumFT, ↓e_reprL, ↓e_reprT, ↓e_reprI, ↓e_reprB, ↓e_reprN, ↓e_reprS, ↓e_strI, ↓e_isub, ↓e_strB, ↓e_addBI, ↓e_subBI, ↓e_subIB, ↓e_drG, ↓e_dnew, ↓e_dgetF, ↓e_dget1, ↓e_dget2, ↓e_dsetdS, ↓e_dgPut, ↓e_lenSetZ, ↓e_lenSetZL, e_kyI, e_kyS, Nat.reduceAdd, Nat.zero_add, List.length_cons, List.length_nil, List.length_map, Nat.reduceLeDiff, and_true, true_and, if_true, ite_true, decide_eq_true_eq, Bool.not_eq_true, Bool.false_eq_true, if_false, ite_false, ↓reduceIte, Int.reduceToNat, Int.reducePow, ne_eq, q_okI, q_okB, q_okN, q_okS, q_okL, q_okT, q_oks0, q_oks1, q_eqII, q_eqBB, q_eqSS, q_eqLL, q_eqTT, q_eqNN, q_eqNI, q_eqIN, q_eqs0, q_eqs1, Bool.true_and, Bool.and_true, beq_iff_eq, reduceCtorEq, wipeE, List.set_cons_zero, List.set_cons_succ, List.set_nil, Bool.not_true, Bool.not_false, List.getElem?_cons_zero, List.getElem?_cons_succ])
  obtain ⟨q, hq, hf⟩ := atI_pick (ns := [1 + r1, 1 + r1, 1 + r1, 1 + r1, 1, 2]) a2 (by simpa using b2)
  have q1 : 1 ≤ q ∧ q ≤ c + 1 := by simp at hq; omega
  refine ⟨_, hf, ?_⟩
  (try simp only [BEq.rfl, ↓e_v0, ↓e_vs, ↓e_c, ↓e_op, ↓e_un, ↓e_test, ↓e_testK, ↓e_tru, ↓e_truL, ↓e_truT, ↓e_truB, ↓e_truI, ↓e_truN, ↓e_truS, ↓e_not, ↓e_and, ↓e_or, ↓e_andv, ↓e_orv, ↓e_notv, ↓e_andK, ↓e_orK, ↓e_notK, ↓e_if, ↓e_nil, ↓e_cons, ↓e_tup, ↓e_lst, ↓e_new, ↓e_call, ↓e_callK, ↓e_drop, ↓e_ret, ↓e_retN, ↓e_pass, ↓e_ifS, ↓e_g0, ↓e_gs, ↓e_gnil, ↓e_gcons, ↓e_gtup, ↓e_asg, ↓e_par, ↓e_parK, ↓e_par3, ↓e_par3K, ↓e_chain, ↓e_chK, ↓e_no, ↓e_some, ↓e_someK, ↓e_cut, ↓e_b, ↓e_iter, ↓e_iterL, ↓e_iterT, ↓e_iterS, ↓e_rng1, ↓e_rng1K, ↓e_rng2, ↓e_rng2K, ↓e_rng3, ↓e_rng3K, ↓e_enum, ↓e_enumL, ↓e_enumT, ↓e_zip, ↓e_zipL, ↓e_zipT, ↓e_zipM, ↓e_zipMK, ↓e_zipS, ↓e_zipSK, ↓e_for, ↓e_lc, ↓e_lcNew, ↓e_forN, ↓e_forC, ↓e_lcN, ↓e_lcC, ↓e_srcN, ↓e_srcC, ↓e_meth, ↓e_isL, ↓e_sub, ↓e_aug, ↓e_augK, ↓e_isi, ↓e_yes, ↓e_bits, ↓e_bitsK, ↓e_cLast, ↓e_cLink, ↓e_cK, ↓e_cNext, ↓e_testCh, ↓e_addI, ↓e_addB, ↓e_addS, ↓e_addT, ↓e_addL, ↓e_subI, ↓e_mulI, ↓e_mulT, ↓e_mulL, ↓e_divI, ↓e_modI, ↓e_powI, ↓e_negI, ↓e_iadd, ↓e_cmpI, ↓e_eq, ↓e_ne, ↓e_isn, ↓e_isnn, ↓e_isb, ↓e_ixL, ↓e_ixKL, ↓e_ixT, ↓e_cutL, ↓e_cutKL, ↓e_cutT, ↓e_lenL, ↓e_lenKL, ↓e_lenT, ↓e_abs, ↓e_intI, ↓e_intB, ↓e_max2, ↓e_min2, ↓e_listL, ↓e_listT, ↓e_listNL, ↓e_listNT, ↓e_tupL, ↓e_tupT, ↓e_sum1T, ↓e_sum1L, ↓e_max1T, ↓e_max1L, ↓e_drI, ↓e_drB, ↓e_drS, ↓e_drN, ↓e_drL, ↓e_drT, ↓e_seq, ↓e_back, ↓e_backL, ↓e_backT, ↓e_sortedL, ↓e_sortedNL, ↓e_divmod, ↓e_lr1, ↓e_lr1K, ↓e_lr2, ↓e_lr2K, ↓e_lr3, ↓e_lr3K, ↓e_revR1, ↓e_revR1K, ↓e_srtSet, ↓e_unlL, ↓e_inL, ↓e_inKL, ↓e_inT, ↓e_inFlat, ↓e_drK, ↓e_srtSetL, ↓e_lenSet, ↓e_lenSetL, ↓e_enumF, ↓e_enumFT, ↓e_reprL, ↓e_reprT, ↓e_reprI, ↓e_reprB, ↓e_reprN, ↓e_reprS, ↓e_strI, ↓e_isub, ↓e_strB, ↓e_addBI, ↓e_subBI, ↓e_subIB, ↓e_drG, ↓e_dnew, ↓e_dgetF, ↓e_dget1, ↓e_dget2, ↓e_dsetdS, ↓e_dgPut, ↓e_lenSetZ, ↓e_lenSetZL, e_kyI, e_kyS, Nat.reduceAdd, Nat.zero_add, List.length_cons, List.length_nil, List.length_map, Nat.reduceLeDiff, and_true, true_and, if_true, ite_true, decide_eq_true_eq, Bool.not_eq_true, Bool.false_eq_true, if_false, ite_false, ↓reduceIte, Int.reduceToNat, Int.reducePow, ne_eq, q_okI, q_okB, q_okN, q_okS, q_okL, q_okT, q_oks0, q_oks1, q_eqII, q_eqBB, q_eqSS, q_eqLL, q_eqTT, q_eqNN, q_eqNI, q_eqIN, q_eqs0, q_eqs1, Bool.true_and, Bool.and_true, beq_iff_eq, reduceCtorEq, wipeE, List.set_cons_zero, List.set_cons_succ, List.set_nil, Bool.not_true, Bool.not_false, List.getElem?_cons_zero, List.getElem?_cons_succ])
  refine ⟨⟨by omega, by omega⟩, by rw [rangeD_length]; omega, ?_⟩
  refine lc_draws D.int (fun w => 1 ≤ w ∧ w ≤ m) i 3 900000000 (fun x n st kd t hn q => ?_) _ (n + 2) _ [] t2 (by rw [rangeD_length]; omega) fun us zs hl hw t3 => ?_
  · simp only [e1__law_word]
    (try simp only [BEq.rfl, ↓e_v0, ↓e_vs, ↓e_c, ↓e_op, ↓e_un, ↓e_test, ↓e_testK, ↓e_tru, ↓e_truL, ↓e_truT, ↓e_truB, ↓e_truI, ↓e_truN, ↓e_truS, ↓e_not, ↓e_and, ↓e_or, ↓e_andv, ↓e_orv, ↓e_notv, ↓e_andK, ↓e_orK, ↓e_notK, ↓e_if, ↓e_nil, ↓e_cons, ↓e_tup, ↓e_lst, ↓e_new, ↓e_call, ↓e_callK, ↓e_drop, ↓e_ret, ↓e_retN, ↓e_pass, ↓e_ifS, ↓e_g0, ↓e_gs, ↓e_gnil, ↓e_gcons, ↓e_gtup, ↓e_asg, ↓e_par, ↓e_parK, ↓e_par3, ↓e_par3K, ↓e_chain, ↓e_chK, ↓e_no, ↓e_some, ↓e_someK, ↓e_cut, ↓e_b, ↓e_iter, ↓e_iterL, ↓e_iterT, ↓e_iterS, ↓e_rng1, ↓e_rng1K, ↓e_rng2, ↓e_rng2K, ↓e_rng3, ↓e_rng3K, ↓e_enum, ↓e_enumL, ↓e_enumT, ↓e_zip, ↓e_zipL, ↓e_zipT, ↓e_zipM, ↓e_zipMK, ↓e_zipS, ↓e_zipSK, ↓e_for, ↓e_lc, ↓e_lcNew, ↓e_forN, ↓e_forC, ↓e_lcN, ↓e_lcC, ↓e_srcN, ↓e_srcC, ↓e_meth, ↓e_isL, ↓e_sub, ↓e_aug, ↓e_augK, ↓e_isi, ↓e_yes, ↓e_bits, ↓e_bitsK, ↓e_cLast, ↓e_cLink, ↓e_cK, ↓e_cNext, ↓e_testCh, ↓e_addI, ↓e_addB, ↓e_addS, ↓e_addT, ↓e_addL, ↓e_subI, ↓e_mulI, ↓e_mulT, ↓e_mulL, ↓e_divI, ↓e_modI, ↓e_powI, ↓e_negI, ↓e_iadd, ↓e_cmpI, ↓e_eq, ↓e_ne, ↓e_isn, ↓e_isnn, ↓e_isb, ↓e_ixL, ↓e_ixKL, ↓e_ixT, ↓e_cutL, ↓e_cutKL, ↓e_cutT, ↓e_lenL, ↓e_lenKL, ↓e_lenT, ↓e_abs, ↓e_intI, ↓e_intB, ↓e_max2, ↓e_min2, ↓e_listL, ↓e_listT, ↓e_listNL, ↓e_listNT, ↓e_tupL, ↓e_tupT, ↓e_sum1T, ↓e_sum1L, ↓e_max1T, ↓e_max1L, ↓e_drI, ↓e_drB, ↓e_drS, ↓e_drN, ↓e_drL, ↓e_drT, ↓e_seq, ↓e_back, ↓e_backL, ↓e_backT, ↓e_sortedL, ↓e_sortedNL, ↓e_divmod, ↓e_lr1, ↓e_lr1K, ↓e_lr2, ↓e_lr2K, ↓e_lr3, ↓e_lr3K, ↓e_revR1, ↓e_revR1K, ↓e_srtSet, ↓e_unlL, ↓e_inL, ↓e_inKL, ↓e_inT, ↓e_inFlat, ↓e_drK, ↓e_srtSetL, ↓e_lenSet, ↓e_lenSetL, ↓e_enumF, ↓e_enumFT, ↓e_reprL, ↓e_reprT, ↓e_reprI, ↓e_reprB, ↓e_reprN, ↓e_reprS, ↓e_strI, ↓e_isub, ↓e_strB, ↓e_addBI, ↓e_subBI, ↓e_subIB, ↓e_drG, ↓e_dnew, ↓e_dgetF, ↓e_dget1, ↓e_dget2, ↓e_dsetdS, ↓e_dgPut, ↓e_lenSetZ, ↓e_lenSetZL, e_kyI, e_kyS, Nat.reduceAdd, Nat.zero_add, List.length_cons, List.length_nil, List.length_map, Nat.reduceLeDiff, and_true, true_and, if_true, ite_true, decide_eq_true_eq, Bool.not_eq_true, Bool.false_eq_true, if_false, ite_false, ↓reduceIte, Int.reduceToNat, Int.reducePow, ne_eq, q_okI, q_okB, q_okN, q_okS, q_okL, q_okT, q_oks0, q_oks1, q_eqII, q_eqBB, q_eqSS, q_eqLL, q_eqTT, q_eqNN, q_eqNI, q_eqIN, q_eqs0, q_eqs1, Bool.true_and, Bool.and_true, beq_iff_eq, reduceCtorEq, wipeE, List.set_cons_zero, List.set_cons_succ, List.set_nil, Bool.not_true, Bool.not_false, List.getElem?_cons_zero, List.getElem?_cons_succ])
    exact ⟨i, n, m, rfl, t, by omega, m1, by omega, fun w ys w1 w2 t => q w ys ⟨w1, w2⟩ t⟩
  rw [List.set_set] at t3 ⊢
  rw [rangeD_length] at t3 hl
  rw [List.nil_append]
  (try simp only [BEq.rfl, ↓e_v0, ↓e_vs, ↓e_c, ↓e_op, ↓e_un, ↓e_test, ↓e_testK, ↓e_tru, ↓e_truL, ↓e_truT, ↓e_truB, ↓e_truI, ↓e_truN, ↓e_truS, ↓e_not, ↓e_and, ↓e_or, ↓e_andv, ↓e_orv, ↓e_notv, ↓e_andK, ↓e_orK, ↓e_notK, ↓e_if, ↓e_nil, ↓e_cons, ↓e_tup, ↓e_lst, ↓e_new, ↓e_call, ↓e_callK, ↓e_drop, ↓e_ret, ↓e_retN, ↓e_pass, ↓e_ifS, ↓e_g0, ↓e_gs, ↓e_gnil, ↓e_gcons, ↓e_gtup, ↓e_asg, ↓e_par, ↓e_parK, ↓e_par3, ↓e_par3K, ↓e_chain, ↓e_chK, ↓e_no, ↓e_some, ↓e_someK, ↓e_cut, ↓e_b, ↓e_iter, ↓e_iterL, ↓e_iterT, ↓e_iterS, ↓e_rng1, ↓e_rng1K, ↓e_rng2, ↓e_rng2K, ↓e_rng3, ↓e_rng3K, ↓e_enum, ↓e_enumL, ↓e_enumT, ↓e_zip, ↓e_zipL, ↓e_zipT, ↓e_zipM, ↓e_zipMK, ↓e_zipS, ↓e_zipSK, ↓e_for, ↓e_lc, ↓e_lcNew, ↓e_forN, ↓e_forC, ↓e_lcN, ↓e_lcC, ↓e_srcN, ↓e_srcC, ↓e_meth, ↓e_isL, ↓e_sub, ↓e_aug, ↓e_augK, ↓e_isi, ↓e_yes, ↓e_bits, ↓e_bitsK, ↓e_cLast, ↓e_cLink, ↓e_cK, ↓e_cNext, ↓e_testCh, ↓e_addI, ↓e_addB, ↓e_addS, ↓e_addT, ↓e_addL, ↓e_subI, ↓e_mulI, ↓e_mulT, ↓e_mulL, ↓e_divI, ↓e_modI, ↓e_powI, ↓e_negI, ↓e_iadd, ↓e_cmpI, ↓e_eq, ↓e_ne, ↓e_isn, ↓e_isnn, ↓e_isb, ↓e_ixL, ↓e_ixKL, ↓e_ixT, ↓e_cutL, ↓e_cutKL, ↓e_cutT, ↓e_lenL, ↓e_lenKL, ↓e_lenT, ↓e_abs, ↓e_intI, ↓e_intB, ↓e_max2, ↓e_min2, ↓e_listL, ↓e_listT, ↓e_listNL, ↓e_listNT, ↓e_tupL, ↓e_tupT, ↓e_sum1T, ↓e_sum1L, ↓e_max1T, ↓e_max1L, ↓e_drI, ↓e_drB, ↓e_drS, ↓e_drN, ↓e_drL, ↓e_drT, ↓e_seq, ↓e_back, ↓e_backL, ↓e_backT, ↓e_sortedL, ↓e_sortedNL, ↓e_divmod, ↓e_lr1, ↓e_lr1K, ↓e_lr2, ↓e_lr2K, ↓e_lr3, ↓e_lr3K, ↓e_revR1, ↓e_revR1K, ↓e_srtSet, ↓e_unlL, ↓e_inL, ↓e_inKL, ↓e_inT, ↓e_inFlat, ↓e_drK, ↓e_srtSetL, ↓e_lenSet, ↓e_lenSetL, ↓e_enumF, ↓e_enumFT, ↓e_reprL, ↓e_reprT, ↓e_reprI, ↓e_reprB, ↓e_reprN, ↓e_reprS, ↓e_strI, ↓e_isub, ↓e_strB, ↓e_addBI, ↓e_subBI, ↓e_subIB, ↓e_drG, ↓e_dnew, ↓e_dgetF, ↓e_dget1, ↓e_dget2, ↓e_dsetdS, ↓e_dgPut, ↓e_lenSetZ, ↓e_lenSetZL, e_kyI, e_kyS, Nat.reduceAdd, Nat.zero_add, List.length_cons, List.length_nil, List.length_map, Nat.reduceLeDiff, and_true, true_and, if_true, ite_true, decide_eq_true_eq, Bool.not_eq_true, Bool.false_eq_true, if_false, ite_false, ↓reduceIte, Int.reduceToNat, Int.reducePow, ne_eq, q_okI, q_okB, q_okN, q_okS, q_okL, q_okT, q_oks0, q_oks1, q_eqII, q_eqBB, q_eqSS, q_eqLL, q_eqTT, q_eqNN, q_eqNI, q_eqIN, q_eqs0, q_eqs1, Bool.true_and, Bool.and_true, beq_iff_eq, reduceCtorEq, wipeE, List.set_cons_zero, List.set_cons_succ, List.set_nil, Bool.not_true, Bool.not_false, List.getElem?_cons_zero, List.getElem?_cons_succ])
  simp only [z3__law_word]
  (try simp only [BEq.rfl, ↓e_v0, ↓e_vs, ↓e_c, ↓e_op, ↓e_un, ↓e_test, ↓e_testK, ↓e_tru, ↓e_truL, ↓e_truT, ↓e_truB, ↓e_truI, ↓e_truN, ↓e_truS, ↓e_not, ↓e_and, ↓e_or, ↓e_andv, ↓e_orv, ↓e_notv, ↓e_andK, ↓e_orK, ↓e_notK, ↓e_if, ↓e_nil, ↓e_cons, ↓e_tup, ↓e_lst, ↓e_new, ↓e_call, ↓e_callK, ↓e_drop, ↓e_ret, ↓e_retN, ↓e_pass, ↓e_ifS, ↓e_g0, ↓e_gs, ↓e_gnil, ↓e_gcons, ↓e_gtup, ↓e_asg, ↓e_par, ↓e_parK, ↓e_par3, ↓e_par3K, ↓e_chain, ↓e_chK, ↓e_no, ↓e_some, ↓e_someK, ↓e_cut, ↓e_b, ↓e_iter, ↓e_iterL, ↓e_iterT, ↓e_iterS, ↓e_rng1, ↓e_rng1K, ↓e_rng2, ↓e_rng2K, ↓e_rng3, ↓e_rng3K, ↓e_enum, ↓e_enumL, ↓e_enumT, ↓e_zip, ↓e_zipL, ↓e_zipT, ↓e_zipM, ↓e_zipMK, ↓e_zipS, ↓e_zipSK, ↓e_for, ↓e_lc, ↓e_lcNew, ↓e_forN, ↓e_forC, ↓e_lcN, ↓e_lcC, ↓e_srcN, ↓e_srcC, ↓e_meth, ↓e_isL, ↓e_sub, ↓e_aug, ↓e_augK, ↓e_isi, ↓e_yes, ↓e_bits, ↓e_bitsK, ↓e_cLast, ↓e_cLink, ↓e_cK, ↓e_cNext, ↓e_testCh, ↓e_addI, ↓e_addB, ↓e_addS, ↓e_addT, ↓e_addL, ↓e_subI, ↓e_mulI, ↓e_mulT, ↓e_mulL, ↓e_divI, ↓e_modI, ↓e_powI, ↓e_negI, ↓e_iadd, ↓e_cmpI, ↓e_eq, ↓e_ne, ↓e_isn, ↓e_isnn, ↓e_isb, ↓e_ixL, ↓e_ixKL, ↓e_ixT, ↓e_cutL, ↓e_cutKL, ↓e_cutT, ↓e_lenL, ↓e_lenKL, ↓e_lenT, ↓e_abs, ↓e_intI, ↓e_intB, ↓e_max2, ↓e_min2, ↓e_listL, ↓e_listT, ↓e_listNL, ↓e_listNT, ↓e_tupL, ↓e_tupT, ↓e_sum1T, ↓e_sum1L, ↓e_max1T, ↓e_max1L, ↓e_drI, ↓e_drB, ↓e_drS, ↓e_drN, ↓e_drL, ↓e_drT, ↓e_seq, ↓e_back, ↓e_backL, ↓e_backT, ↓e_sortedL, ↓e_sortedNL, ↓e_divmod, ↓e_lr1, ↓e_lr1K, ↓e_lr2, ↓e_lr2K, ↓e_lr3, ↓e_lr3K, ↓e_revR1, ↓e_revR1K, ↓e_srtSet, ↓e_unlL, ↓e_inL, ↓e_inKL, ↓e_inT, ↓e_inFlat, ↓e_drK, ↓e_srtSetL, ↓e_lenSet, ↓e_lenSetL, ↓e_enumF, ↓e_enumFT, ↓e_reprL, ↓e_reprT, ↓e_reprI, ↓e_reprB, ↓e_reprN, ↓e_reprS, ↓e_strI, ↓e_isub, ↓e_strB, ↓e_addBI, ↓e_subBI, ↓e_subIB, ↓e_drG, ↓e_dnew, ↓e_dgetF, ↓e_dget1, ↓e_dget2, ↓e_dsetdS, ↓e_dgPut, ↓e_lenSetZ, ↓e_lenSetZL, e_kyI, e_kyS, Nat.reduceAdd, Nat.zero_add, List.length_cons, List.length_nil, List.length_map, Nat.reduceLeDiff, and_true, true_and, if_true, ite_true, decide_eq_true_eq, Bool.not_eq_true, Bool.false_eq_true, if_false, ite_false, ↓reduceIte, Int.reduceToNat, Int.reducePow, ne_eq, q_okI, q_okB, q_okN, q_okS, q_okL, q_okT, q_oks0, q_oks1, q_eqII, q_eqBB, q_eqSS, q_eqLL, q_eqTT, q_eqNN, q_eqNI, q_eqIN, q_eqs0, q_eqs1, Bool.true_and, Bool.and_true, beq_iff_eq, reduceCtorEq, wipeE, List.set_cons_zero, List.set_cons_succ, List.set_nil, Bool.not_true, Bool.not_false, List.getElem?_cons_zero, List.getElem?_cons_succ])
  refine ⟨⟨by omega, by omega⟩, by rw [rangeD_length]; omega, ?_⟩
  have ul : 0 < us.length := by omega
  rw [natOf_range]
  have pick : ∀ j : Nat, us[j % us.length]'(Nat.mod_lt _ ul) ∈ us := fun j => List.getElem_mem _
  refine lc_mapM (fun j : Nat => D.int (j : Nat)) (fun j => us[j % us.length]'(Nat.mod_lt _ ul)) D.int _ _ (by exact trivial) _ (fun j hj kd q => ?_) ?_
  · simp only [e2__law_word]
    (try simp only [BEq.rfl, ↓e_v0, ↓e_vs, ↓e_c, ↓e_op, ↓e_un, ↓e_test, ↓e_testK, ↓e_tru, ↓e_truL, ↓e_truT, ↓e_truB, ↓e_truI, ↓e_truN, ↓e_truS, ↓e_not, ↓e_and, ↓e_or, ↓e_andv, ↓e_orv, ↓e_notv, ↓e_andK, ↓e_orK, ↓e_notK, ↓e_if, ↓e_nil, ↓e_cons, ↓e_tup, ↓e_lst, ↓e_new, ↓e_call, ↓e_callK, ↓e_drop, ↓e_ret, ↓e_retN, ↓e_pass, ↓e_ifS, ↓e_g0, ↓e_gs, ↓e_gnil, ↓e_gcons, ↓e_gtup, ↓e_asg, ↓e_par, ↓e_parK, ↓e_par3, ↓e_par3K, ↓e_chain, ↓e_chK, ↓e_no, ↓e_some, ↓e_someK, ↓e_cut, ↓e_b, ↓e_iter, ↓e_iterL, ↓e_iterT, ↓e_iterS, ↓e_rng1, ↓e_rng1K, ↓e_rng2, ↓e_rng2K, ↓e_rng3, ↓e_rng3K, ↓e_enum, ↓e_enumL, ↓e_enumT, ↓e_zip, ↓e_zipL, ↓e_zipT, ↓e_zipM, ↓e_zipMK, ↓e_zipS, ↓e_zipSK, ↓e_for, ↓e_lc, ↓e_lcNew, ↓e_forN, ↓e_forC, ↓e_lcN, ↓e_lcC, ↓e_srcN, ↓e_srcC, ↓e_meth, ↓e_isL, ↓e_sub, ↓e_aug, ↓e_augK, ↓e_isi, ↓e_yes, ↓e_bits, ↓e_bitsK, ↓e_cLast, ↓e_cLink, ↓e_cK, ↓e_cNext, ↓e_testCh, ↓e_addI, ↓e_addB, ↓e_addS, ↓e_addT, ↓e_addL, ↓e_subI, ↓e_mulI, ↓e_mulT, ↓e_mulL, ↓e_divI, ↓e_modI, ↓e_powI, ↓e_negI, ↓e_iadd, ↓e_cmpI, ↓e_eq, ↓e_ne, ↓e_isn, ↓e_isnn, ↓e_isb, ↓e_ixL, ↓e_ixKL, ↓e_ixT, ↓e_cutL, ↓e_cutKL, ↓e_cutT, ↓e_lenL, ↓e_lenKL, ↓e_lenT, ↓e_abs, ↓e_intI, ↓e_intB, ↓e_max2, ↓e_min2, ↓e_listL, ↓e_listT, ↓e_listNL, ↓e_listNT, ↓e_tupL, ↓e_tupT, ↓e_sum1T, ↓e_sum1L, ↓e_max1T, ↓e_max1L, ↓e_drI, ↓e_drB, ↓e_drS, ↓e_drN, ↓e_drL, ↓e_drT, ↓e_seq, ↓e_back, ↓e_backL, ↓e_backT, ↓e_sortedL, ↓e_sortedNL, ↓e_divmod, ↓e_lr1, ↓e_lr1K, ↓e_lr2, ↓e_lr2K, ↓e_lr3, ↓e_lr3K, ↓e_revR1, ↓e_revR1K, ↓e_srtSet, ↓e_unlL, ↓e_inL, ↓e_inKL, ↓e_inT, ↓e_inFlat, ↓e_drK, ↓e_srtSetL, ↓e_lenSet, ↓e_lenSetL, ↓e_enumF, ↓e_enumFT, ↓e_reprL, ↓e_reprT, ↓e_reprI, ↓e_reprB, ↓e_reprN, ↓e_reprS, ↓e_strI, ↓e_isub, ↓e_strB, ↓e_addBI, ↓e_subBI, ↓e_subIB, ↓e_drG, ↓e_dnew, ↓e_dgetF, ↓e_dget1, ↓e_dget2, ↓e_dsetdS, ↓e_dgPut, ↓e_lenSetZ, ↓e_lenSetZL, e_kyI, e_kyS, Nat.reduceAdd, Nat.zero_add, List.length_cons, List.length_nil, List.length_map, Nat.reduceLeDiff, and_true, true_and, if_true, ite_true, decide_eq_true_eq, Bool.not_eq_true, Bool.false_eq_true, if_false, ite_false, ↓reduceIte, Int.reduceToNat, Int.reducePow, ne_eq, q_okI, q_okB, q_okN, q_okS, q_okL, q_okT, q_oks0, q_oks1, q_eqII, q_eqBB, q_eqSS, q_eqLL, q_eqTT, q_eqNN, q_eqNI, q_eqIN, q_eqs0, q_eqs1, Bool.true_and, Bool.and_true, beq_iff_eq, reduceCtorEq, wipeE, List.set_cons_zero, List.set_cons_succ, List.set_nil, Bool.not_true, Bool.not_false, List.getElem?_cons_zero, List.getElem?_cons_succ])
    refine ⟨by omega, ?_⟩
    refine ⟨.int (us[j % us.length]'(Nat.mod_lt _ ul)), ?_, q⟩
    rw [show (j : Int) % (us.length : Int) = ((j % us.length : Nat) : Int) by omega]
    refine atI_nat ?_
    rw [List.getElem?_map, List.getElem?_eq_getElem (Nat.mod_lt _ ul)]
    rfl
  rw [List.nil_append]
  (try simp only [BEq.rfl, ↓e_v0, ↓e_vs, ↓e_c, ↓e_op, ↓e_un, ↓e_test, ↓e_testK, ↓e_tru, ↓e_truL, ↓e_truT, ↓e_truB, ↓e_truI, ↓e_truN, ↓e_truS, ↓e_not, ↓e_and, ↓e_or, ↓e_andv, ↓e_orv, ↓e_notv, ↓e_andK, ↓e_orK, ↓e_notK, ↓e_if, ↓e_nil, ↓e_cons, ↓e_tup, ↓e_lst, ↓e_new, ↓e_call, ↓e_callK, ↓e_drop, ↓e_ret, ↓e_retN, ↓e_pass, ↓e_ifS, ↓e_g0, ↓e_gs, ↓e_gnil, ↓e_gcons, ↓e_gtup, ↓e_asg, ↓e_par, ↓e_parK, ↓e_par3, ↓e_par3K, ↓e_chain, ↓e_chK, ↓e_no, ↓e_some, ↓e_someK, ↓e_cut, ↓e_b, ↓e_iter, ↓e_iterL, ↓e_iterT, ↓e_iterS, ↓e_rng1, ↓e_rng1K, ↓e_rng2, ↓e_rng2K, ↓e_rng3, ↓e_rng3K, ↓e_enum, ↓e_enumL, ↓e_enumT, ↓e_zip, ↓e_zipL, ↓e_zipT, ↓e_zipM, ↓e_zipMK, ↓e_zipS, ↓e_zipSK, ↓e_for, ↓e_lc, ↓e_lcNew, ↓e_forN, ↓e_forC, ↓e_lcN, ↓e_lcC, ↓e_srcN, ↓e_srcC, ↓e_meth, ↓e_isL, ↓e_sub, ↓e_aug, ↓e_augK, ↓e_isi, ↓e_yes, ↓e_bits, ↓e_bitsK, ↓e_cLast, ↓e_cLink, ↓e_cK, ↓e_cNext, ↓e_testCh, ↓e_addI, ↓e_addB, ↓e_addS, ↓e_addT, ↓e_addL, ↓e_subI, ↓e_mulI, ↓e_mulT, ↓e_mulL, ↓e_divI, ↓e_modI, ↓e_powI, ↓e_negI, ↓e_iadd, ↓e_cmpI, ↓e_eq, ↓e_ne, ↓e_isn, ↓e_isnn, ↓e_isb, ↓e_ixL, ↓e_ixKL, ↓e_ixT, ↓e_cutL, ↓e_cutKL, ↓e_cutT, ↓e_lenL, ↓e_lenKL, ↓e_lenT, ↓e_abs, ↓e_intI, ↓e_intB, ↓e_max2, ↓e_min2, ↓e_listL, ↓e_listT, ↓e_listNL, ↓e_listNT, ↓e_tupL, ↓e_tupT, ↓e_sum1T, ↓e_sum1L, ↓e_max1T, ↓e_max1L, ↓e_drI, ↓e_drB, ↓e_drS, ↓e_drN, ↓e_drL, ↓e_drT, ↓e_seq, ↓e_back, ↓e_backL, ↓e_backT, ↓e_sortedL, ↓e_sortedNL, ↓e_divmod, ↓e_lr1, ↓e_lr1K, ↓e_lr2, ↓e_lr2K, ↓e_lr3, ↓e_lr3K, ↓e_revR1, ↓e_revR1K, ↓e_srtSet, ↓e_unlL, ↓e_inL, ↓e_inKL, ↓e_inT, ↓e_inFlat, ↓e_drK, ↓e_srtSetL, ↓e_lenSet, ↓e_lenSetL, ↓e_enumF, ↓e_enumFT, ↓e_reprL, ↓e_reprT, ↓e_reprI, ↓e_reprB, ↓e_reprN, ↓e_reprS, ↓e_strI, ↓e_isub, ↓e_strB, ↓e_addBI, ↓e_subBI, ↓e_subIB, ↓e_drG, ↓e_dnew, ↓e_dgetF, ↓e_dget1, ↓e_dget2, ↓e_dsetdS, ↓e_dgPut, ↓e_lenSetZ, ↓e_lenSetZL, e_kyI, e_kyS, Nat.reduceAdd, Nat.zero_add, List.length_cons, List.length_nil, List.length_map, Nat.reduceLeDiff, and_true, true_and, if_true, ite_true, decide_eq_true_eq, Bool.not_eq_true, Bool.false_eq_true, if_false, ite_false, ↓reduceIte, Int.reduceToNat, Int.reducePow, ne_eq, q_okI, q_okB, q_okN, q_okS, q_okL, q_okT, q_oks0, q_oks1, q_eqII, q_eqBB, q_eqSS, q_eqLL, q_eqTT, q_eqNN, q_eqNI, q_eqIN, q_eqs0, q_eqs1, Bool.true_and, Bool.and_true, beq_iff_eq, reduceCtorEq, wipeE, List.set_cons_zero, List.set_cons_succ, List.set_nil, Bool.not_true, Bool.not_false, List.getElem?_cons_zero, List.getElem?_cons_succ])
  refine h _ zs ⟨?_, ?_, ?_⟩ (t3.mono (by omega))
  · intro z
    have := congrArg List.length z
    simp only [List.length_map, List.length_range, List.length_nil] at this
    omega
  · rw [List.length_map, List.length_range]
    omega
  · intro w hw'
    obtain ⟨j, _, rfl⟩ := List.mem_map.mp hw'
    exact hw _ (pick j)
def e1__law_right : DE :=
    (dVar 8)
def e2__law_right : DE :=
    (dVar 8)
def b1__law_right : DS :=
    (dAsg (dOp addD (dVar 11) (dB bList (dCons (dVar 10) dNil))) (dgName 11))
def e3__law_right : DE :=
    (dOp (cmpI fun i j => decide (j < i)) (dB bAbs (dCons (dOp subD (dVar 12) (dVar 13)) dNil)) (dC (.int 2)))
def e4__law_right : DE :=
    (dVar 8)
def e5__law_right : DE :=
    (dOp ixD (dVar 14) (dOp divD (dVar 15) (dC (.int 2))))
def b2__law_right : DS :=
    (dIfS (dTest (dOp (eqOp true) (dLenSetZ (dLc (dIter (dVar 10)) (dgName 15) dYes (e5__law_right) [15])) (dC (.int 1)))) (dRet (dC (.bl false))) dPass)
def z19__law_right : DS :=
    (dRet (dIf (dTru (dCall sp_is_whole (dCons (dVar 4) (dCons (dVar 3) dNil)))) (dOp (eqOp false) (dVar 16) (dB bLen (dCons (dVar 5) dNil))) (dOp (cmpI fun i j => decide (i < j)) (dVar 16) (dB bLen (dCons (dVar 5) dNil)))))
def z18__law_right : DS :=
    (dSeq (dAsg (dLenSetZ (dVar 14)) (dgName 16))
    (z19__law_right))
def z15__law_right : DS :=
    (dSeq (dFor (dIter (dVar 6)) (dgTup 2 (dgCons (dgName 8) (dgCons (dgName 10) dgNil))) (b2__law_right))
    (z18__law_right))
def z14__law_right : DS :=
    (dSeq (dAsg (dLc (dIter (dCall sp_strip (dCons (dOp addD (dVar 2) (dVar 3)) (dCons (dVar 1) dNil)))) (dgTup 2 (dgCons (dgName 8) (dgCons (dgName 9) dgNil))) dYes (e4__law_right) [8, 9]) (dgName 14))
    (z15__law_right))
def z12__law_right : DS :=
    (dSeq (dIfS (dTru (dB bAny (dCons (dLc (dZip (dVar 7) (dCut cutOp (dVar 7) (dSome (dC (.int 1))) dNo)) (dgTup 2 (dgCons (dgName 12) (dgCons (dgName 13) dgNil))) dYes (e3__law_right) [12, 13]) dNil))) (dRet (dC (.bl false))) dPass)
    (z14__law_right))
def z10__law_right : DS :=
    (dSeq (dIfS (dTest (dOp (eqOp true) (dB bSorted (dCons (dVar 11) dNil)) (dLR3 (dC (.int 1)) (dOp mulD (dC (.int 2)) (dVar 1)) (dC (.int 2))))) (dRet (dC (.bl false))) dPass)
    (z12__law_right))
def z8__law_right : DS :=
    (dSeq (dFor (dIter (dVar 6)) (dgTup 2 (dgCons (dgName 8) (dgCons (dgName 10) dgNil))) (b1__law_right))
    (z10__law_right))
def z7__law_right : DS :=
    (dSeq (dAsg (dLst dNil) (dgName 11))
    (z8__law_right))
def z5__law_right : DS :=
    (dSeq (dIfS (dOr (dTest (dOp (eqOp true) (dLc (dIter (dVar 6)) (dgTup 2 (dgCons (dgName 8) (dgCons (dgName 10) dgNil))) dYes (e2__law_right) [8, 10]) (dVar 5))) (dTest (dOp (eqOp true) (dB bLen (dCons (dVar 6) dNil)) (dCall sp_spots (dCons (dVar 4) dNil))))) (dRet (dC (.bl false))) dPass)
    (z7__law_right))
def z4__law_right : DS :=
    (dSeq (dPar 6 7 (dCons (dCall sp_layers (dCons (dVar 2) (dCons (dVar 1) dNil))) (dCons (dLc (dIter (dCall sp_strip (dCons (dVar 2) (dCons (dVar 1) dNil)))) (dgTup 2 (dgCons (dgName 8) (dgCons (dgName 9) dgNil))) dYes (e1__law_right) [8, 9]) dNil)))
    (z5__law_right))
def z3__law_right : DS :=
    (dSeq (dAsg (dLR3 (dOp ixD (dVar 4) (dC (.int 0))) (dOp addD (dOp ixD (dVar 4) (dC (.int 1))) (dC (.int 1))) (dC (.int 2))) (dgName 5))
    (z4__law_right))
def z2__law_right : DS :=
    (dSeq (dAsg (dCall sp_behind (dCons (dTup (dCons (dC (.int 1)) (dCons (dOp subD (dOp mulD (dC (.int 2)) (dVar 1)) (dC (.int 1))) dNil))) (dCons (dVar 2) dNil))) (dgName 4))
    (z3__law_right))
def t__law_right : DS :=
    (dSeq (dPar 2 3 (dCons (dCall sp__law_word (dCons (dVar 0) (dCons (dC (.int 6)) (dCons (dVar 1) dNil)))) (dCons (dCall sp__law_word (dCons (dVar 0) (dCons (dC (.int 6)) (dCons (dVar 1) dNil)))) dNil)))
    (z2__law_right))
theorem st__law_right (a0 a1 : D) : startD N__law_right [a0, a1] = [some a0, some a1, none, none, none, none, none, none, none, none, none, none, none, none, none, none, none] := rfl
/-- what a word makes of a size -/
def ledI (ws : List Int) (x : Int) : Int := ws.foldl (fun y w => absd y w) x
theorem led_sz : ∀ (ws : List Int) (s : Int), ledI ws (sz s) = sz (flast s ws)
  | [], s => rfl
  | w :: r, s => by
    show ledI r (absd (sz s) w) = sz (flast (fallI s w) r)
    rw [← sz_fall]
    exact led_sz r _
theorem led_near : ∀ (ws : List Int) (x y : Int), -2 ≤ x - y → x - y ≤ 2 → -2 ≤ ledI ws x - ledI ws y ∧ ledI ws x - ledI ws y ≤ 2
  | [], x, y, h1, h2 => ⟨h1, h2⟩
  | w :: r, x, y, h1, h2 => by
    refine led_near r (absd x w) (absd y w) ?_ ?_
    · unfold absd; split <;> split <;> omega
    · unfold absd; split <;> split <;> omega
theorem odd_sz {r : Int × Int} (o : OkRun r) {x : Int} (hx : x ∈ oddsR r) : sz x = x := by
  have ix := (mem_odds o x).mp hx
  have := o.1
  unfold sz
  rw [if_neg (by have := ix.1; omega)]
theorem lasts_led (ws : List Int) {h : Int} (h1 : 1 ≤ h) : lastsL ws h = (oddsR (1, 2 * h - 1)).map (ledI ws) := by
  unfold lastsL
  refine List.map_congr_left fun x hx => ?_
  rw [← led_sz, odd_sz (run0_ok h1) hx]
theorem lasts_set (ws : List Int) {h : Int} (h1 : 1 ≤ h) : setZ (lastsL ws h) = oddsR (foldsR (1, 2 * h - 1) ws) := setZ_it (ws := ws) (run0_ok h1) 1
theorem mem_idxF {z x : Int} : ∀ {L : List Int} {j : Nat}, x ∈ idxF z L j ↔ ∃ k : Nat, L[k]? = some z ∧ x = 2 * ((j + k : Nat) : Int) + 1
  | [], j => by simp [idxF]
  | y :: r, j => by
    have ih := mem_idxF (z := z) (x := x) (L := r) (j := j + 1)
    unfold idxF
    constructor
    · intro h
      by_cases e : y = z
      · rw [if_pos e] at h
        rcases List.mem_cons.mp h with h | h
        · exact ⟨0, by rw [e]; rfl, by simpa using h⟩
        · obtain ⟨k, a, b⟩ := ih.mp h
          exact ⟨k + 1, by simpa using a, by rw [b]; omega⟩
      · rw [if_neg e] at h
        obtain ⟨k, a, b⟩ := ih.mp h
        exact ⟨k + 1, by simpa using a, by rw [b]; omega⟩
    · rintro ⟨k, a, b⟩
      cases k with
      | zero =>
        have : y = z := by simpa using a
        rw [if_pos this, b]
        exact List.mem_cons_self
      | succ k =>
        have m : x ∈ idxF z r (j + 1) := ih.mpr ⟨k, by simpa using a, by rw [b]; omega⟩
        split
        · exact List.mem_cons_of_mem _ m
        · exact m
theorem idxF_nd (z : Int) : ∀ (L : List Int) (j : Nat), (idxF z L j).Nodup
  | [], _ => List.nodup_nil
  | y :: r, j => by
    have ih := idxF_nd z r (j + 1)
    unfold idxF
    split
    · refine List.nodup_cons.mpr ⟨fun h => ?_, ih⟩
      obtain ⟨k, _, e⟩ := mem_idxF.mp h
      omega
    · exact ih
theorem idxF_all (L : List Int) : ∀ zs : List Int, zs.Nodup → (zs.flatMap fun z => idxF z L 0).Nodup
  | [], _ => List.nodup_nil
  | z :: r, h => by
    rw [List.nodup_cons] at h
    rw [List.flatMap_cons, List.nodup_append]
    refine ⟨idxF_nd _ _ _, idxF_all L r h.2, fun a ha b hb e => ?_⟩
    obtain ⟨z', hz', hb'⟩ := List.mem_flatMap.mp hb
    obtain ⟨k, k1, k2⟩ := mem_idxF.mp ha
    obtain ⟨l, l1, l2⟩ := mem_idxF.mp hb'
    have : k = l := by omega
    subst this
    rw [k1] at l1
    cases l1
    exact h.1 hz'
theorem idxF_sort {h : Int} (h1 : 1 ≤ h) (L : List Int) (hL : L.length = h.toNat) : sortZ ((setZ L).flatMap fun z => idxF z L 0) = oddsR (1, 2 * h - 1) := by
  symm
  refine sortZ_of ?_ ((oddsR_lt _).imp fun q => Int.le_of_lt q)
  refine (List.perm_ext_iff_of_nodup ((oddsR_lt _).imp fun q => Int.ne_of_lt q) (idxF_all L _ ((setZ_lt L).imp fun q => Int.ne_of_lt q))).mpr fun x => ?_
  rw [mem_odds (run0_ok h1), List.mem_flatMap]
  constructor
  · rintro ⟨x1, x2, x3⟩
    dsimp only at x1 x2
    have lt : ((x - 1) / 2).toNat < L.length := by omega
    refine ⟨L[((x - 1) / 2).toNat], mem_setZ.mpr (List.getElem_mem _), mem_idxF.mpr ⟨((x - 1) / 2).toNat, List.getElem?_eq_getElem lt, by omega⟩⟩
  · rintro ⟨z, _, hx⟩
    obtain ⟨k, k1, k2⟩ := mem_idxF.mp hx
    have := (List.getElem?_eq_some_iff.mp k1).1
    exact ⟨by dsimp only; omega, by dsimp only; omega, by omega⟩
theorem odd_at {h : Int} {k : Nat} (hk : k < h.toNat) : (oddsR (1, 2 * h - 1))[k]? = some (2 * (k : Int) + 1) := by
  unfold oddsR
  rw [List.getElem?_map, List.getElem?_range (by unfold spotR; dsimp only; omega)]
  show some (1 + (k : Int) * 2) = _
  congr 1
  omega
theorem lasts_len (ws : List Int) {h : Int} (h1 : 1 ≤ h) : (lastsL ws h).length = h.toNat := by
  unfold lastsL
  rw [List.length_map, oddsR_length]
  unfold spotR
  dsimp only
  omega
theorem lasts_near {ws : List Int} {h : Int} (h1 : 1 ≤ h) {p : Int × Int} (hp : p ∈ (lastsL ws h).zip ((lastsL ws h).drop 1)) : -2 ≤ p.1 - p.2 ∧ p.1 - p.2 ≤ 2 := by
  obtain ⟨i, hi, e⟩ := List.mem_iff_getElem.mp hp
  rw [List.length_zip, List.length_drop, lasts_len ws h1] at hi
  rw [List.getElem_zip, List.getElem_drop] at e
  have a : (lastsL ws h)[i]? = some (ledI ws (2 * (i : Int) + 1)) := by rw [lasts_led ws h1, List.getElem?_map, odd_at (by omega)]; rfl
  have b : (lastsL ws h)[1 + i]? = some (ledI ws (2 * ((1 + i : Nat) : Int) + 1)) := by rw [lasts_led ws h1, List.getElem?_map, odd_at (by omega)]; rfl
  obtain ⟨a1, a2⟩ := List.getElem?_eq_some_iff.mp a
  obtain ⟨b1, b2⟩ := List.getElem?_eq_some_iff.mp b
  rw [← e]
  dsimp only
  rw [a2, b2]
  exact led_near ws _ _ (by omega) (by omega)
theorem led_app : ∀ (a b : List Int) (x : Int), ledI (a ++ b) x = ledI b (ledI a x) := fun a b x => List.foldl_append ..
theorem later_at {a b : List Int} {h : Int} (h1 : 1 ≤ h) {k : Nat} {z : Int} (hk : (lastsL a h)[k]? = some z) : (lastsL (a ++ b) h)[k]? = some (ledI b z) := by
  have lt := (List.getElem?_eq_some_iff.mp hk).1
  rw [lasts_len a h1] at lt
  rw [lasts_led a h1, List.getElem?_map, odd_at lt] at hk
  have hk' : ledI a (2 * (k : Int) + 1) = z := Option.some.inj hk
  rw [lasts_led (a ++ b) h1, List.getElem?_map, odd_at lt]
  show some (ledI (a ++ b) _) = _
  rw [led_app, hk']
theorem set_const {ns : List Int} {c : Int} (h : ∀ x ∈ ns, x = c) (ne : ns ≠ []) : setZ ns = [c] := by
  refine setZ_of (fun k => ?_) (List.pairwise_singleton _ _)
  rw [List.mem_singleton]
  refine ⟨fun e => ?_, h k⟩
  obtain ⟨x, hx⟩ := List.exists_mem_of_ne_nil ns ne
  rw [e, ← h x hx]
  exact hx
def sp__law_right : SpD := fun ds st kk => ∃ (i n : Nat) (h : Int), ds = [.obj i, .int h] ∧ Tp i n st ∧ n < 1000000 ∧ 1 ≤ h ∧ h ≤ 8 ∧ ∀ xs, Tp i (n + 8000) (st.set i xs) → kk (.bl true) (st.set i xs)
theorem len__law_right (ds : List D) (st : Sto) (kk : DK) (h : sp__law_right ds st kk) : ds.length = 2 := by
  obtain ⟨_, _, _, rfl, _⟩ := h
  rfl
theorem p__law_right : BodyD false N__law_right sp__law_right t__law_right := by
  rintro ds st kk ⟨i, n, h, rfl, ht, hn, h1, h8, q⟩
  rw [st__law_right]
  simp only [t__law_right]
  (try simp only [BEq.rfl, ↓e_v0, ↓e_vs, ↓e_c, ↓e_op, ↓e_un, ↓e_test, ↓e_testK, ↓e_tru, ↓e_truL, ↓e_truT, ↓e_truB, ↓e_truI, ↓e_truN, ↓e_truS, ↓e_not, ↓e_and, ↓e_or, ↓e_andv, ↓e_orv, ↓e_notv, ↓e_andK, ↓e_orK, ↓e_notK, ↓e_if, ↓e_nil, ↓e_cons, ↓e_tup, ↓e_lst, ↓e_new, ↓e_call, ↓e_callK, ↓e_drop, ↓e_ret, ↓e_retN, ↓e_pass, ↓e_ifS, ↓e_g0, ↓e_gs, ↓e_gnil, ↓e_gcons, ↓e_gtup, ↓e_asg, ↓e_par, ↓e_parK, ↓e_par3, ↓e_par3K, ↓e_chain, ↓e_chK, ↓e_no, ↓e_some, ↓e_someK, ↓e_cut, ↓e_b, ↓e_iter, ↓e_iterL, ↓e_iterT, ↓e_iterS, ↓e_rng1, ↓e_rng1K, ↓e_rng2, ↓e_rng2K, ↓e_rng3, ↓e_rng3K, ↓e_enum, ↓e_enumL, ↓e_enumT, ↓e_zip, ↓e_zipL, ↓e_zipT, ↓e_zipM, ↓e_zipMK, ↓e_zipS, ↓e_zipSK, ↓e_for, ↓e_lc, ↓e_lcNew, ↓e_meth, ↓e_isL, ↓e_sub, ↓e_aug, ↓e_augK, ↓e_isi, ↓e_yes, ↓e_bits, ↓e_bitsK, ↓e_cLast, ↓e_cLink, ↓e_cK, ↓e_cNext, ↓e_testCh, ↓e_addI, ↓e_addB, ↓e_addS, ↓e_addT, ↓e_addL, ↓e_subI, ↓e_mulI, ↓e_mulT, ↓e_mulL, ↓e_divI, ↓e_modI, ↓e_powI, ↓e_negI, ↓e_iadd, ↓e_cmpI, ↓e_eq, ↓e_ne, ↓e_isn, ↓e_isnn, ↓e_isb, ↓e_ixL, ↓e_ixKL, ↓e_ixT, ↓e_cutL, ↓e_cutKL, ↓e_cutT, ↓e_lenL, ↓e_lenKL, ↓e_lenT, ↓e_abs, ↓e_intI, ↓e_intB, ↓e_max2, ↓e_min2, ↓e_listL, ↓e_listT, ↓e_listNL, ↓e_listNT, ↓e_tupL, ↓e_tupT, ↓e_sum1T, ↓e_sum1L, ↓e_max1T, ↓e_max1L, ↓e_drI, ↓e_drB, ↓e_drS, ↓e_drN, ↓e_drL, ↓e_drT, ↓e_seq, ↓e_back, ↓e_backL, ↓e_backT, ↓e_sortedL, ↓e_sortedNL, ↓e_divmod, ↓e_lr1, ↓e_lr1K, ↓e_lr2, ↓e_lr2K, ↓e_lr3, ↓e_lr3K, ↓e_revR1, ↓e_revR1K, ↓e_srtSet, ↓e_unlL, ↓e_inL, ↓e_inKL, ↓e_inT, ↓e_inFlat, ↓e_drK, ↓e_srtSetL, ↓e_lenSet, ↓e_lenSetL, ↓e_enumF, ↓e_enumFT, ↓e_reprL, ↓e_reprT, ↓e_reprI, ↓e_reprB, ↓e_reprN, ↓e_reprS, ↓e_strI, ↓e_isub, ↓e_strB, ↓e_addBI, ↓e_subBI, ↓e_subIB, ↓e_drG, ↓e_dnew, ↓e_dgetF, ↓e_dget1, ↓e_dget2, ↓e_dsetdS, ↓e_dgPut, ↓e_lenSetZ, ↓e_lenSetZL, e_kyI, e_kyS, Nat.reduceAdd, Nat.zero_add, List.length_cons, List.length_nil, List.length_map, Nat.reduceLeDiff, and_true, true_and, if_true, ite_true, decide_eq_true_eq, Bool.not_eq_true, Bool.false_eq_true, if_false, ite_false, ↓reduceIte, Int.reduceToNat, Int.reducePow, ne_eq, q_okI, q_okB, q_okN, q_okS, q_okL, q_okT, q_oks0, q_oks1, q_eqII, q_eqBB, q_eqSS, q_eqLL, q_eqTT, q_eqNN, q_eqNI, q_eqIN, q_eqs0, q_eqs1, Bool.true_and, Bool.and_true, beq_iff_eq, reduceCtorEq, wipeE, List.set_cons_zero, List.set_cons_succ, List.set_nil, Bool.not_true, Bool.not_false, List.getElem?_cons_zero, List.getElem?_cons_succ])
  refine ⟨i, n, 6, h, rfl, ht, by omega, by decide, by decide, h1, by omega, fun row x1 hr t1 => ?_⟩
  refine ⟨i, _, 6, h, rfl, t1, by omega, by decide, by decide, h1, by omega, fun more x2 hm t2 => ?_⟩
  rw [List.set_set] at t2 ⊢
  have q' := q x2 (t2.mono (by omega))
  clear q t1 t2 ht
  generalize st.set i x2 = S at q' ⊢
  have lr : row.length ≤ 6 := by have := hr.len; omega
  have lm : more.length ≤ 6 := by have := hm.len; omega
  have ok0 := run0_ok h1
  have okr := folds_ok row ok0
  have rng := folds_in0 h1 hr.all
  simp only [z2__law_right]
  (try simp only [BEq.rfl, ↓e_v0, ↓e_vs, ↓e_c, ↓e_op, ↓e_un, ↓e_test, ↓e_testK, ↓e_tru, ↓e_truL, ↓e_truT, ↓e_truB, ↓e_truI, ↓e_truN, ↓e_truS, ↓e_not, ↓e_and, ↓e_or, ↓e_andv, ↓e_orv, ↓e_notv, ↓e_andK, ↓e_orK, ↓e_notK, ↓e_if, ↓e_nil, ↓e_cons, ↓e_tup, ↓e_lst, ↓e_new, ↓e_call, ↓e_callK, ↓e_drop, ↓e_ret, ↓e_retN, ↓e_pass, ↓e_ifS, ↓e_g0, ↓e_gs, ↓e_gnil, ↓e_gcons, ↓e_gtup, ↓e_asg, ↓e_par, ↓e_parK, ↓e_par3, ↓e_par3K, ↓e_chain, ↓e_chK, ↓e_no, ↓e_some, ↓e_someK, ↓e_cut, ↓e_b, ↓e_iter, ↓e_iterL, ↓e_iterT, ↓e_iterS, ↓e_rng1, ↓e_rng1K, ↓e_rng2, ↓e_rng2K, ↓e_rng3, ↓e_rng3K, ↓e_enum, ↓e_enumL, ↓e_enumT, ↓e_zip, ↓e_zipL, ↓e_zipT, ↓e_zipM, ↓e_zipMK, ↓e_zipS, ↓e_zipSK, ↓e_for, ↓e_lc, ↓e_lcNew, ↓e_meth, ↓e_isL, ↓e_sub, ↓e_aug, ↓e_augK, ↓e_isi, ↓e_yes, ↓e_bits, ↓e_bitsK, ↓e_cLast, ↓e_cLink, ↓e_cK, ↓e_cNext, ↓e_testCh, ↓e_addI, ↓e_addB, ↓e_addS, ↓e_addT, ↓e_addL, ↓e_subI, ↓e_mulI, ↓e_mulT, ↓e_mulL, ↓e_divI, ↓e_modI, ↓e_powI, ↓e_negI, ↓e_iadd, ↓e_cmpI, ↓e_eq, ↓e_ne, ↓e_isn, ↓e_isnn, ↓e_isb, ↓e_ixL, ↓e_ixKL, ↓e_ixT, ↓e_cutL, ↓e_cutKL, ↓e_cutT, ↓e_lenL, ↓e_lenKL, ↓e_lenT, ↓e_abs, ↓e_intI, ↓e_intB, ↓e_max2, ↓e_min2, ↓e_listL, ↓e_listT, ↓e_listNL, ↓e_listNT, ↓e_tupL, ↓e_tupT, ↓e_sum1T, ↓e_sum1L, ↓e_max1T, ↓e_max1L, ↓e_drI, ↓e_drB, ↓e_drS, ↓e_drN, ↓e_drL, ↓e_drT, ↓e_seq, ↓e_back, ↓e_backL, ↓e_backT, ↓e_sortedL, ↓e_sortedNL, ↓e_divmod, ↓e_lr1, ↓e_lr1K, ↓e_lr2, ↓e_lr2K, ↓e_lr3, ↓e_lr3K, ↓e_revR1, ↓e_revR1K, ↓e_srtSet, ↓e_unlL, ↓e_inL, ↓e_inKL, ↓e_inT, ↓e_inFlat, ↓e_drK, ↓e_srtSetL, ↓e_lenSet, ↓e_lenSetL, ↓e_enumF, ↓e_enumFT, ↓e_reprL, ↓e_reprT, ↓e_reprI, ↓e_reprB, ↓e_reprN, ↓e_reprS, ↓e_strI, ↓e_isub, ↓e_strB, ↓e_addBI, ↓e_subBI, ↓e_subIB, ↓e_drG, ↓e_dnew, ↓e_dgetF, ↓e_dget1, ↓e_dget2, ↓e_dsetdS, ↓e_dgPut, ↓e_lenSetZ, ↓e_lenSetZL, e_kyI, e_kyS, Nat.reduceAdd, Nat.zero_add, List.length_cons, List.length_nil, List.length_map, Nat.reduceLeDiff, and_true, true_and, if_true, ite_true, decide_eq_true_eq, Bool.not_eq_true, Bool.false_eq_true, if_false, ite_false, ↓reduceIte, Int.reduceToNat, Int.reducePow, ne_eq, q_okI, q_okB, q_okN, q_okS, q_okL, q_okT, q_oks0, q_oks1, q_eqII, q_eqBB, q_eqSS, q_eqLL, q_eqTT, q_eqNN, q_eqNI, q_eqIN, q_eqs0, q_eqs1, Bool.true_and, Bool.and_true, beq_iff_eq, reduceCtorEq, wipeE, List.set_cons_zero, List.set_cons_succ, List.set_nil, Bool.not_true, Bool.not_false, List.getElem?_cons_zero, List.getElem?_cons_succ])
  refine ⟨mul2 _, (1, 2 * h - 1), row, rfl, ?_⟩
  (try simp only [BEq.rfl, ↓e_v0, ↓e_vs, ↓e_c, ↓e_op, ↓e_un, ↓e_test, ↓e_testK, ↓e_tru, ↓e_truL, ↓e_truT, ↓e_truB, ↓e_truI, ↓e_truN, ↓e_truS, ↓e_not, ↓e_and, ↓e_or, ↓e_andv, ↓e_orv, ↓e_notv, ↓e_andK, ↓e_orK, ↓e_notK, ↓e_if, ↓e_nil, ↓e_cons, ↓e_tup, ↓e_lst, ↓e_new, ↓e_call, ↓e_callK, ↓e_drop, ↓e_ret, ↓e_retN, ↓e_pass, ↓e_ifS, ↓e_g0, ↓e_gs, ↓e_gnil, ↓e_gcons, ↓e_gtup, ↓e_asg, ↓e_par, ↓e_parK, ↓e_par3, ↓e_par3K, ↓e_chain, ↓e_chK, ↓e_no, ↓e_some, ↓e_someK, ↓e_cut, ↓e_b, ↓e_iter, ↓e_iterL, ↓e_iterT, ↓e_iterS, ↓e_rng1, ↓e_rng1K, ↓e_rng2, ↓e_rng2K, ↓e_rng3, ↓e_rng3K, ↓e_enum, ↓e_enumL, ↓e_enumT, ↓e_zip, ↓e_zipL, ↓e_zipT, ↓e_zipM, ↓e_zipMK, ↓e_zipS, ↓e_zipSK, ↓e_for, ↓e_lc, ↓e_lcNew, ↓e_meth, ↓e_isL, ↓e_sub, ↓e_aug, ↓e_augK, ↓e_isi, ↓e_yes, ↓e_bits, ↓e_bitsK, ↓e_cLast, ↓e_cLink, ↓e_cK, ↓e_cNext, ↓e_testCh, ↓e_addI, ↓e_addB, ↓e_addS, ↓e_addT, ↓e_addL, ↓e_subI, ↓e_mulI, ↓e_mulT, ↓e_mulL, ↓e_divI, ↓e_modI, ↓e_powI, ↓e_negI, ↓e_iadd, ↓e_cmpI, ↓e_eq, ↓e_ne, ↓e_isn, ↓e_isnn, ↓e_isb, ↓e_ixL, ↓e_ixKL, ↓e_ixT, ↓e_cutL, ↓e_cutKL, ↓e_cutT, ↓e_lenL, ↓e_lenKL, ↓e_lenT, ↓e_abs, ↓e_intI, ↓e_intB, ↓e_max2, ↓e_min2, ↓e_listL, ↓e_listT, ↓e_listNL, ↓e_listNT, ↓e_tupL, ↓e_tupT, ↓e_sum1T, ↓e_sum1L, ↓e_max1T, ↓e_max1L, ↓e_drI, ↓e_drB, ↓e_drS, ↓e_drN, ↓e_drL, ↓e_drT, ↓e_seq, ↓e_back, ↓e_backL, ↓e_backT, ↓e_sortedL, ↓e_sortedNL, ↓e_divmod, ↓e_lr1, ↓e_lr1K, ↓e_lr2, ↓e_lr2K, ↓e_lr3, ↓e_lr3K, ↓e_revR1, ↓e_revR1K, ↓e_srtSet, ↓e_unlL, ↓e_inL, ↓e_inKL, ↓e_inT, ↓e_inFlat, ↓e_drK, ↓e_srtSetL, ↓e_lenSet, ↓e_lenSetL, ↓e_enumF, ↓e_enumFT, ↓e_reprL, ↓e_reprT, ↓e_reprI, ↓e_reprB, ↓e_reprN, ↓e_reprS, ↓e_strI, ↓e_isub, ↓e_strB, ↓e_addBI, ↓e_subBI, ↓e_subIB, ↓e_drG, ↓e_dnew, ↓e_dgetF, ↓e_dget1, ↓e_dget2, ↓e_dsetdS, ↓e_dgPut, ↓e_lenSetZ, ↓e_lenSetZL, e_kyI, e_kyS, Nat.reduceAdd, Nat.zero_add, List.length_cons, List.length_nil, List.length_map, Nat.reduceLeDiff, and_true, true_and, if_true, ite_true, decide_eq_true_eq, Bool.not_eq_true, Bool.false_eq_true, if_false, ite_false, ↓reduceIte, Int.reduceToNat, Int.reducePow, ne_eq, q_okI, q_okB, q_okN, q_okS, q_okL, q_okT, q_oks0, q_oks1, q_eqII, q_eqBB, q_eqSS, q_eqLL, q_eqTT, q_eqNN, q_eqNI, q_eqIN, q_eqs0, q_eqs1, Bool.true_and, Bool.and_true, beq_iff_eq, reduceCtorEq, wipeE, List.set_cons_zero, List.set_cons_succ, List.set_nil, Bool.not_true, Bool.not_false, List.getElem?_cons_zero, List.getElem?_cons_succ])
  generalize hR : foldsR (1, 2 * h - 1) row = R at okr rng
  have r2 : R.2 ≤ 2 * h - 1 := rng.2
  have r1 : 1 ≤ R.1 := okr.1
  have sp := spot_pos okr
  have sp8 : spotR R ≤ 8 := by unfold spotR; omega
  simp only [z3__law_right]
  (try simp only [BEq.rfl, ↓e_v0, ↓e_vs, ↓e_c, ↓e_op, ↓e_un, ↓e_test, ↓e_testK, ↓e_tru, ↓e_truL, ↓e_truT, ↓e_truB, ↓e_truI, ↓e_truN, ↓e_truS, ↓e_not, ↓e_and, ↓e_or, ↓e_andv, ↓e_orv, ↓e_notv, ↓e_andK, ↓e_orK, ↓e_notK, ↓e_if, ↓e_nil, ↓e_cons, ↓e_tup, ↓e_lst, ↓e_new, ↓e_call, ↓e_callK, ↓e_drop, ↓e_ret, ↓e_retN, ↓e_pass, ↓e_ifS, ↓e_g0, ↓e_gs, ↓e_gnil, ↓e_gcons, ↓e_gtup, ↓e_asg, ↓e_par, ↓e_parK, ↓e_par3, ↓e_par3K, ↓e_chain, ↓e_chK, ↓e_no, ↓e_some, ↓e_someK, ↓e_cut, ↓e_b, ↓e_iter, ↓e_iterL, ↓e_iterT, ↓e_iterS, ↓e_rng1, ↓e_rng1K, ↓e_rng2, ↓e_rng2K, ↓e_rng3, ↓e_rng3K, ↓e_enum, ↓e_enumL, ↓e_enumT, ↓e_zip, ↓e_zipL, ↓e_zipT, ↓e_zipM, ↓e_zipMK, ↓e_zipS, ↓e_zipSK, ↓e_for, ↓e_lc, ↓e_lcNew, ↓e_meth, ↓e_isL, ↓e_sub, ↓e_aug, ↓e_augK, ↓e_isi, ↓e_yes, ↓e_bits, ↓e_bitsK, ↓e_cLast, ↓e_cLink, ↓e_cK, ↓e_cNext, ↓e_testCh, ↓e_addI, ↓e_addB, ↓e_addS, ↓e_addT, ↓e_addL, ↓e_subI, ↓e_mulI, ↓e_mulT, ↓e_mulL, ↓e_divI, ↓e_modI, ↓e_powI, ↓e_negI, ↓e_iadd, ↓e_cmpI, ↓e_eq, ↓e_ne, ↓e_isn, ↓e_isnn, ↓e_isb, ↓e_ixL, ↓e_ixKL, ↓e_ixT, ↓e_cutL, ↓e_cutKL, ↓e_cutT, ↓e_lenL, ↓e_lenKL, ↓e_lenT, ↓e_abs, ↓e_intI, ↓e_intB, ↓e_max2, ↓e_min2, ↓e_listL, ↓e_listT, ↓e_listNL, ↓e_listNT, ↓e_tupL, ↓e_tupT, ↓e_sum1T, ↓e_sum1L, ↓e_max1T, ↓e_max1L, ↓e_drI, ↓e_drB, ↓e_drS, ↓e_drN, ↓e_drL, ↓e_drT, ↓e_seq, ↓e_back, ↓e_backL, ↓e_backT, ↓e_sortedL, ↓e_sortedNL, ↓e_divmod, ↓e_lr1, ↓e_lr1K, ↓e_lr2, ↓e_lr2K, ↓e_lr3, ↓e_lr3K, ↓e_revR1, ↓e_revR1K, ↓e_srtSet, ↓e_unlL, ↓e_inL, ↓e_inKL, ↓e_inT, ↓e_inFlat, ↓e_drK, ↓e_srtSetL, ↓e_lenSet, ↓e_lenSetL, ↓e_enumF, ↓e_enumFT, ↓e_reprL, ↓e_reprT, ↓e_reprI, ↓e_reprB, ↓e_reprN, ↓e_reprS, ↓e_strI, ↓e_isub, ↓e_strB, ↓e_addBI, ↓e_subBI, ↓e_subIB, ↓e_drG, ↓e_dnew, ↓e_dgetF, ↓e_dget1, ↓e_dget2, ↓e_dsetdS, ↓e_dgPut, ↓e_lenSetZ, ↓e_lenSetZL, e_kyI, e_kyS, Nat.reduceAdd, Nat.zero_add, List.length_cons, List.length_nil, List.length_map, Nat.reduceLeDiff, and_true, true_and, if_true, ite_true, decide_eq_true_eq, Bool.not_eq_true, Bool.false_eq_true, if_false, ite_false, ↓reduceIte, Int.reduceToNat, Int.reducePow, ne_eq, q_okI, q_okB, q_okN, q_okS, q_okL, q_okT, q_oks0, q_oks1, q_eqII, q_eqBB, q_eqSS, q_eqLL, q_eqTT, q_eqNN, q_eqNI, q_eqIN, q_eqs0, q_eqs1, Bool.true_and, Bool.and_true, beq_iff_eq, reduceCtorEq, wipeE, List.set_cons_zero, List.set_cons_succ, List.set_nil, Bool.not_true, Bool.not_false, List.getElem?_cons_zero, List.getElem?_cons_succ])
  (try simp only [BEq.rfl, ↓e_v0, ↓e_vs, ↓e_c, ↓e_op, ↓e_un, ↓e_test, ↓e_testK, ↓e_tru, ↓e_truL, ↓e_truT, ↓e_truB, ↓e_truI, ↓e_truN, ↓e_truS, ↓e_not, ↓e_and, ↓e_or, ↓e_andv, ↓e_orv, ↓e_notv, ↓e_andK, ↓e_orK, ↓e_notK, ↓e_if, ↓e_nil, ↓e_cons, ↓e_tup, ↓e_lst, ↓e_new, ↓e_call, ↓e_callK, ↓e_drop, ↓e_ret, ↓e_retN, ↓e_pass, ↓e_ifS, ↓e_g0, ↓e_gs, ↓e_gnil, ↓e_gcons, ↓e_gtup, ↓e_asg, ↓e_par, ↓e_parK, ↓e_par3, ↓e_par3K, ↓e_chain, ↓e_chK, ↓e_no, ↓e_some, ↓e_someK, ↓e_cut, ↓e_b, ↓e_iter, ↓e_iterL, ↓e_iterT, ↓e_iterS, ↓e_rng1, ↓e_rng1K, ↓e_rng2, ↓e_rng2K, ↓e_rng3, ↓e_rng3K, ↓e_enum, ↓e_enumL, ↓e_enumT, ↓e_zip, ↓e_zipL, ↓e_zipT, ↓e_zipM, ↓e_zipMK, ↓e_zipS, ↓e_zipSK, ↓e_for, ↓e_lc, ↓e_lcNew, ↓e_meth, ↓e_isL, ↓e_sub, ↓e_aug, ↓e_augK, ↓e_isi, ↓e_yes, ↓e_bits, ↓e_bitsK, ↓e_cLast, ↓e_cLink, ↓e_cK, ↓e_cNext, ↓e_testCh, ↓e_addI, ↓e_addB, ↓e_addS, ↓e_addT, ↓e_addL, ↓e_subI, ↓e_mulI, ↓e_mulT, ↓e_mulL, ↓e_divI, ↓e_modI, ↓e_powI, ↓e_negI, ↓e_iadd, ↓e_cmpI, ↓e_eq, ↓e_ne, ↓e_isn, ↓e_isnn, ↓e_isb, ↓e_ixL, ↓e_ixKL, ↓e_ixT, ↓e_cutL, ↓e_cutKL, ↓e_cutT, ↓e_lenL, ↓e_lenKL, ↓e_lenT, ↓e_abs, ↓e_intI, ↓e_intB, ↓e_max2, ↓e_min2, ↓e_listL, ↓e_listT, ↓e_listNL, ↓e_listNT, ↓e_tupL, ↓e_tupT, ↓e_sum1T, ↓e_sum1L, ↓e_max1T, ↓e_max1L, ↓e_drI, ↓e_drB, ↓e_drS, ↓e_drN, ↓e_drL, ↓e_drT, ↓e_seq, ↓e_back, ↓e_backL, ↓e_backT, ↓e_sortedL, ↓e_sortedNL, ↓e_divmod, ↓e_lr1, ↓e_lr1K, ↓e_lr2, ↓e_lr2K, ↓e_lr3, ↓e_lr3K, ↓e_revR1, ↓e_revR1K, ↓e_srtSet, ↓e_unlL, ↓e_inL, ↓e_inKL, ↓e_inT, ↓e_inFlat, ↓e_drK, ↓e_srtSetL, ↓e_lenSet, ↓e_lenSetL, ↓e_enumF, ↓e_enumFT, ↓e_reprL, ↓e_reprT, ↓e_reprI, ↓e_reprB, ↓e_reprN, ↓e_reprS, ↓e_strI, ↓e_isub, ↓e_strB, ↓e_addBI, ↓e_subBI, ↓e_subIB, ↓e_drG, ↓e_dnew, ↓e_dgetF, ↓e_dget1, ↓e_dget2, ↓e_dsetdS, ↓e_dgPut, ↓e_lenSetZ, ↓e_lenSetZL, e_kyI, e_kyS, Nat.reduceAdd, Nat.zero_add, List.length_cons, List.length_nil, List.length_map, Nat.reduceLeDiff, and_true, true_and, if_true, ite_true, decide_eq_true_eq, Bool.not_eq_true, Bool.false_eq_true, if_false, ite_false, ↓reduceIte, Int.reduceToNat, Int.reducePow, ne_eq, q_okI, q_okB, q_okN, q_okS, q_okL, q_okT, q_oks0, q_oks1, q_eqII, q_eqBB, q_eqSS, q_eqLL, q_eqTT, q_eqNN, q_eqNI, q_eqIN, q_eqs0, q_eqs1, Bool.true_and, Bool.and_true, beq_iff_eq, reduceCtorEq, wipeE, List.set_cons_zero, List.set_cons_succ, List.set_nil, Bool.not_true, Bool.not_false, List.getElem?_cons_zero, List.getElem?_cons_succ, tupR, p0, p1, Option.some.injEq, exists_eq_left'])
  refine ⟨_, rng_odds okr (by omega), by omega, ?_⟩
  rw [stepD_odds]
  simp only [z4__law_right]
  (try simp only [BEq.rfl, ↓e_v0, ↓e_vs, ↓e_c, ↓e_op, ↓e_un, ↓e_test, ↓e_testK, ↓e_tru, ↓e_truL, ↓e_truT, ↓e_truB, ↓e_truI, ↓e_truN, ↓e_truS, ↓e_not, ↓e_and, ↓e_or, ↓e_andv, ↓e_orv, ↓e_notv, ↓e_andK, ↓e_orK, ↓e_notK, ↓e_if, ↓e_nil, ↓e_cons, ↓e_tup, ↓e_lst, ↓e_new, ↓e_call, ↓e_callK, ↓e_drop, ↓e_ret, ↓e_retN, ↓e_pass, ↓e_ifS, ↓e_g0, ↓e_gs, ↓e_gnil, ↓e_gcons, ↓e_gtup, ↓e_asg, ↓e_par, ↓e_parK, ↓e_par3, ↓e_par3K, ↓e_chain, ↓e_chK, ↓e_no, ↓e_some, ↓e_someK, ↓e_cut, ↓e_b, ↓e_iter, ↓e_iterL, ↓e_iterT, ↓e_iterS, ↓e_rng1, ↓e_rng1K, ↓e_rng2, ↓e_rng2K, ↓e_rng3, ↓e_rng3K, ↓e_enum, ↓e_enumL, ↓e_enumT, ↓e_zip, ↓e_zipL, ↓e_zipT, ↓e_zipM, ↓e_zipMK, ↓e_zipS, ↓e_zipSK, ↓e_for, ↓e_lc, ↓e_lcNew, ↓e_meth, ↓e_isL, ↓e_sub, ↓e_aug, ↓e_augK, ↓e_isi, ↓e_yes, ↓e_bits, ↓e_bitsK, ↓e_cLast, ↓e_cLink, ↓e_cK, ↓e_cNext, ↓e_testCh, ↓e_addI, ↓e_addB, ↓e_addS, ↓e_addT, ↓e_addL, ↓e_subI, ↓e_mulI, ↓e_mulT, ↓e_mulL, ↓e_divI, ↓e_modI, ↓e_powI, ↓e_negI, ↓e_iadd, ↓e_cmpI, ↓e_eq, ↓e_ne, ↓e_isn, ↓e_isnn, ↓e_isb, ↓e_ixL, ↓e_ixKL, ↓e_ixT, ↓e_cutL, ↓e_cutKL, ↓e_cutT, ↓e_lenL, ↓e_lenKL, ↓e_lenT, ↓e_abs, ↓e_intI, ↓e_intB, ↓e_max2, ↓e_min2, ↓e_listL, ↓e_listT, ↓e_listNL, ↓e_listNT, ↓e_tupL, ↓e_tupT, ↓e_sum1T, ↓e_sum1L, ↓e_max1T, ↓e_max1L, ↓e_drI, ↓e_drB, ↓e_drS, ↓e_drN, ↓e_drL, ↓e_drT, ↓e_seq, ↓e_back, ↓e_backL, ↓e_backT, ↓e_sortedL, ↓e_sortedNL, ↓e_divmod, ↓e_lr1, ↓e_lr1K, ↓e_lr2, ↓e_lr2K, ↓e_lr3, ↓e_lr3K, ↓e_revR1, ↓e_revR1K, ↓e_srtSet, ↓e_unlL, ↓e_inL, ↓e_inKL, ↓e_inT, ↓e_inFlat, ↓e_drK, ↓e_srtSetL, ↓e_lenSet, ↓e_lenSetL, ↓e_enumF, ↓e_enumFT, ↓e_reprL, ↓e_reprT, ↓e_reprI, ↓e_reprB, ↓e_reprN, ↓e_reprS, ↓e_strI, ↓e_isub, ↓e_strB, ↓e_addBI, ↓e_subBI, ↓e_subIB, ↓e_drG, ↓e_dnew, ↓e_dgetF, ↓e_dget1, ↓e_dget2, ↓e_dsetdS, ↓e_dgPut, ↓e_lenSetZ, ↓e_lenSetZL, e_kyI, e_kyS, Nat.reduceAdd, Nat.zero_add, List.length_cons, List.length_nil, List.length_map, Nat.reduceLeDiff, and_true, true_and, if_true, ite_true, decide_eq_true_eq, Bool.not_eq_true, Bool.false_eq_true, if_false, ite_false, ↓reduceIte, Int.reduceToNat, Int.reducePow, ne_eq, q_okI, q_okB, q_okN, q_okS, q_okL, q_okT, q_oks0, q_oks1, q_eqII, q_eqBB, q_eqSS, q_eqLL, q_eqTT, q_eqNN, q_eqNI, q_eqIN, q_eqs0, q_eqs1, Bool.true_and, Bool.and_true, beq_iff_eq, reduceCtorEq, wipeE, List.set_cons_zero, List.set_cons_succ, List.set_nil, Bool.not_true, Bool.not_false, List.getElem?_cons_zero, List.getElem?_cons_succ])
  refine ⟨row, h, rfl, h1, by omega, row, h, rfl, h1, by omega, ?_⟩
  have LL := lasts_len row h1
  have LS := lasts_set row h1
  rw [hR] at LS
  have sl : (setZ (lastsL row h)).length ≤ 8 := by rw [LS, oddsR_length]; omega
  have eL : stripL row h = ((oddsR (1, 2 * h - 1)).map (spotI row)).map pairD := rfl
  have eL2 : ((oddsR (1, 2 * h - 1)).map (spotI row)).map (·.1) = lastsL row h := by unfold lastsL; rw [List.map_map]; rfl
  have lps : ((oddsR (1, 2 * h - 1)).map (spotI row)).length ≤ 8 := by rw [← List.length_map (f := fun p : Int × Bool => p.1), eL2, LL]; omega
  simp only [stripD, eL]
  (try simp only [BEq.rfl, ↓e_v0, ↓e_vs, ↓e_c, ↓e_op, ↓e_un, ↓e_test, ↓e_testK, ↓e_tru, ↓e_truL, ↓e_truT, ↓e_truB, ↓e_truI, ↓e_truN, ↓e_truS, ↓e_not, ↓e_and, ↓e_or, ↓e_andv, ↓e_orv, ↓e_notv, ↓e_andK, ↓e_orK, ↓e_notK, ↓e_if, ↓e_nil, ↓e_cons, ↓e_tup, ↓e_lst, ↓e_new, ↓e_call, ↓e_callK, ↓e_drop, ↓e_ret, ↓e_retN, ↓e_pass, ↓e_ifS, ↓e_g0, ↓e_gs, ↓e_gnil, ↓e_gcons, ↓e_gtup, ↓e_asg, ↓e_par, ↓e_parK, ↓e_par3, ↓e_par3K, ↓e_chain, ↓e_chK, ↓e_no, ↓e_some, ↓e_someK, ↓e_cut, ↓e_b, ↓e_iter, ↓e_iterL, ↓e_iterT, ↓e_iterS, ↓e_rng1, ↓e_rng1K, ↓e_rng2, ↓e_rng2K, ↓e_rng3, ↓e_rng3K, ↓e_enum, ↓e_enumL, ↓e_enumT, ↓e_zip, ↓e_zipL, ↓e_zipT, ↓e_zipM, ↓e_zipMK, ↓e_zipS, ↓e_zipSK, ↓e_for, ↓e_lc, ↓e_lcNew, ↓e_meth, ↓e_isL, ↓e_sub, ↓e_aug, ↓e_augK, ↓e_isi, ↓e_yes, ↓e_bits, ↓e_bitsK, ↓e_cLast, ↓e_cLink, ↓e_cK, ↓e_cNext, ↓e_testCh, ↓e_addI, ↓e_addB, ↓e_addS, ↓e_addT, ↓e_addL, ↓e_subI, ↓e_mulI, ↓e_mulT, ↓e_mulL, ↓e_divI, ↓e_modI, ↓e_powI, ↓e_negI, ↓e_iadd, ↓e_cmpI, ↓e_eq, ↓e_ne, ↓e_isn, ↓e_isnn, ↓e_isb, ↓e_ixL, ↓e_ixKL, ↓e_ixT, ↓e_cutL, ↓e_cutKL, ↓e_cutT, ↓e_lenL, ↓e_lenKL, ↓e_lenT, ↓e_abs, ↓e_intI, ↓e_intB, ↓e_max2, ↓e_min2, ↓e_listL, ↓e_listT, ↓e_listNL, ↓e_listNT, ↓e_tupL, ↓e_tupT, ↓e_sum1T, ↓e_sum1L, ↓e_max1T, ↓e_max1L, ↓e_drI, ↓e_drB, ↓e_drS, ↓e_drN, ↓e_drL, ↓e_drT, ↓e_seq, ↓e_back, ↓e_backL, ↓e_backT, ↓e_sortedL, ↓e_sortedNL, ↓e_divmod, ↓e_lr1, ↓e_lr1K, ↓e_lr2, ↓e_lr2K, ↓e_lr3, ↓e_lr3K, ↓e_revR1, ↓e_revR1K, ↓e_srtSet, ↓e_unlL, ↓e_inL, ↓e_inKL, ↓e_inT, ↓e_inFlat, ↓e_drK, ↓e_srtSetL, ↓e_lenSet, ↓e_lenSetL, ↓e_enumF, ↓e_enumFT, ↓e_reprL, ↓e_reprT, ↓e_reprI, ↓e_reprB, ↓e_reprN, ↓e_reprS, ↓e_strI, ↓e_isub, ↓e_strB, ↓e_addBI, ↓e_subBI, ↓e_subIB, ↓e_drG, ↓e_dnew, ↓e_dgetF, ↓e_dget1, ↓e_dget2, ↓e_dsetdS, ↓e_dgPut, ↓e_lenSetZ, ↓e_lenSetZL, e_kyI, e_kyS, Nat.reduceAdd, Nat.zero_add, List.length_cons, List.length_nil, List.length_map, Nat.reduceLeDiff, and_true, true_and, if_true, ite_true, decide_eq_true_eq, Bool.not_eq_true, Bool.false_eq_true, if_false, ite_false, ↓reduceIte, Int.reduceToNat, Int.reducePow, ne_eq, q_okI, q_okB, q_okN, q_okS, q_okL, q_okT, q_oks0, q_oks1, q_eqII, q_eqBB, q_eqSS, q_eqLL, q_eqTT, q_eqNN, q_eqNI, q_eqIN, q_eqs0, q_eqs1, Bool.true_and, Bool.and_true, beq_iff_eq, reduceCtorEq, wipeE, List.set_cons_zero, List.set_cons_succ, List.set_nil, Bool.not_true, Bool.not_false, List.getElem?_cons_zero, List.getElem?_cons_succ])
  refine fun _ => ⟨by omega, ?_⟩
  refine lc_map pairD (fun p => D.int p.1) _ _ (by exact trivial) _ (fun p hp kd k => ?_) ?_
  · simp only [e2__law_right, pairD]
    (try simp only [BEq.rfl, ↓e_v0, ↓e_vs, ↓e_c, ↓e_op, ↓e_un, ↓e_test, ↓e_testK, ↓e_tru, ↓e_truL, ↓e_truT, ↓e_truB, ↓e_truI, ↓e_truN, ↓e_truS, ↓e_not, ↓e_and, ↓e_or, ↓e_andv, ↓e_orv, ↓e_notv, ↓e_andK, ↓e_orK, ↓e_notK, ↓e_if, ↓e_nil, ↓e_cons, ↓e_tup, ↓e_lst, ↓e_new, ↓e_call, ↓e_callK, ↓e_drop, ↓e_ret, ↓e_retN, ↓e_pass, ↓e_ifS, ↓e_g0, ↓e_gs, ↓e_gnil, ↓e_gcons, ↓e_gtup, ↓e_asg, ↓e_par, ↓e_parK, ↓e_par3, ↓e_par3K, ↓e_chain, ↓e_chK, ↓e_no, ↓e_some, ↓e_someK, ↓e_cut, ↓e_b, ↓e_iter, ↓e_iterL, ↓e_iterT, ↓e_iterS, ↓e_rng1, ↓e_rng1K, ↓e_rng2, ↓e_rng2K, ↓e_rng3, ↓e_rng3K, ↓e_enum, ↓e_enumL, ↓e_enumT, ↓e_zip, ↓e_zipL, ↓e_zipT, ↓e_zipM, ↓e_zipMK, ↓e_zipS, ↓e_zipSK, ↓e_for, ↓e_lc, ↓e_lcNew, ↓e_forN, ↓e_forC, ↓e_lcN, ↓e_lcC, ↓e_srcN, ↓e_srcC, ↓e_meth, ↓e_isL, ↓e_sub, ↓e_aug, ↓e_augK, ↓e_isi, ↓e_yes, ↓e_bits, ↓e_bitsK, ↓e_cLast, ↓e_cLink, ↓e_cK, ↓e_cNext, ↓e_testCh, ↓e_addI, ↓e_addB, ↓e_addS, ↓e_addT, ↓e_addL, ↓e_subI, ↓e_mulI, ↓e_mulT, ↓e_mulL, ↓e_divI, ↓e_modI, ↓e_powI, ↓e_negI, ↓e_iadd, ↓e_cmpI, ↓e_eq, ↓e_ne, ↓e_isn, ↓e_isnn, ↓e_isb, ↓e_ixL, ↓e_ixKL, ↓e_ixT, ↓e_cutL, ↓e_cutKL, ↓e_cutT, ↓e_lenL, ↓e_lenKL, ↓e_lenT, ↓e_abs, ↓e_intI, ↓e_intB, ↓e_max2, ↓e_min2, ↓e_listL, ↓e_listT, ↓e_listNL, ↓e_listNT, ↓e_tupL, ↓e_tupT, ↓e_sum1T, ↓e_sum1L, ↓e_max1T, ↓e_max1L, ↓e_drI, ↓e_drB, ↓e_drS, ↓e_drN, ↓e_drL, ↓e_drT, ↓e_seq, ↓e_back, ↓e_backL, ↓e_backT, ↓e_sortedL, ↓e_sortedNL, ↓e_divmod, ↓e_lr1, ↓e_lr1K, ↓e_lr2, ↓e_lr2K, ↓e_lr3, ↓e_lr3K, ↓e_revR1, ↓e_revR1K, ↓e_srtSet, ↓e_unlL, ↓e_inL, ↓e_inKL, ↓e_inT, ↓e_inFlat, ↓e_drK, ↓e_srtSetL, ↓e_lenSet, ↓e_lenSetL, ↓e_enumF, ↓e_enumFT, ↓e_reprL, ↓e_reprT, ↓e_reprI, ↓e_reprB, ↓e_reprN, ↓e_reprS, ↓e_strI, ↓e_isub, ↓e_strB, ↓e_addBI, ↓e_subBI, ↓e_subIB, ↓e_drG, ↓e_dnew, ↓e_dgetF, ↓e_dget1, ↓e_dget2, ↓e_dsetdS, ↓e_dgPut, ↓e_lenSetZ, ↓e_lenSetZL, e_kyI, e_kyS, Nat.reduceAdd, Nat.zero_add, List.length_cons, List.length_nil, List.length_map, Nat.reduceLeDiff, and_true, true_and, if_true, ite_true, decide_eq_true_eq, Bool.not_eq_true, Bool.false_eq_true, if_false, ite_false, ↓reduceIte, Int.reduceToNat, Int.reducePow, ne_eq, q_okI, q_okB, q_okN, q_okS, q_okL, q_okT, q_oks0, q_oks1, q_eqII, q_eqBB, q_eqSS, q_eqLL, q_eqTT, q_eqNN, q_eqNI, q_eqIN, q_eqs0, q_eqs1, Bool.true_and, Bool.and_true, beq_iff_eq, reduceCtorEq, wipeE, List.set_cons_zero, List.set_cons_succ, List.set_nil, Bool.not_true, Bool.not_false, List.getElem?_cons_zero, List.getElem?_cons_succ])
    exact k
  rw [List.nil_append, show ((oddsR (1, 2 * h - 1)).map (spotI row)).map (fun p => D.int p.1) = (((oddsR (1, 2 * h - 1)).map (spotI row)).map (·.1)).map D.int by rw [List.map_map (f := fun p : Int × Bool => p.1)]; rfl, eL2]
  clear eL eL2 lps
  have near := fun p => lasts_near (ws := row) h1 (p := p)
  have later := fun k z => later_at (a := row) (b := more) h1 (k := k) (z := z)
  have srt := idxF_sort h1 (lastsL row h) LL
  generalize lastsL row h = L at LL LS sl near later srt
  simp only [z5__law_right]
  (try simp only [BEq.rfl, ↓e_v0, ↓e_vs, ↓e_c, ↓e_op, ↓e_un, ↓e_test, ↓e_testK, ↓e_tru, ↓e_truL, ↓e_truT, ↓e_truB, ↓e_truI, ↓e_truN, ↓e_truS, ↓e_not, ↓e_and, ↓e_or, ↓e_andv, ↓e_orv, ↓e_notv, ↓e_andK, ↓e_orK, ↓e_notK, ↓e_if, ↓e_nil, ↓e_cons, ↓e_tup, ↓e_lst, ↓e_new, ↓e_call, ↓e_callK, ↓e_drop, ↓e_ret, ↓e_retN, ↓e_pass, ↓e_ifS, ↓e_g0, ↓e_gs, ↓e_gnil, ↓e_gcons, ↓e_gtup, ↓e_asg, ↓e_par, ↓e_parK, ↓e_par3, ↓e_par3K, ↓e_chain, ↓e_chK, ↓e_no, ↓e_some, ↓e_someK, ↓e_cut, ↓e_b, ↓e_iter, ↓e_iterL, ↓e_iterT, ↓e_iterS, ↓e_rng1, ↓e_rng1K, ↓e_rng2, ↓e_rng2K, ↓e_rng3, ↓e_rng3K, ↓e_enum, ↓e_enumL, ↓e_enumT, ↓e_zip, ↓e_zipL, ↓e_zipT, ↓e_zipM, ↓e_zipMK, ↓e_zipS, ↓e_zipSK, ↓e_for, ↓e_lc, ↓e_lcNew, ↓e_meth, ↓e_isL, ↓e_sub, ↓e_aug, ↓e_augK, ↓e_isi, ↓e_yes, ↓e_bits, ↓e_bitsK, ↓e_cLast, ↓e_cLink, ↓e_cK, ↓e_cNext, ↓e_testCh, ↓e_addI, ↓e_addB, ↓e_addS, ↓e_addT, ↓e_addL, ↓e_subI, ↓e_mulI, ↓e_mulT, ↓e_mulL, ↓e_divI, ↓e_modI, ↓e_powI, ↓e_negI, ↓e_iadd, ↓e_cmpI, ↓e_eq, ↓e_ne, ↓e_isn, ↓e_isnn, ↓e_isb, ↓e_ixL, ↓e_ixKL, ↓e_ixT, ↓e_cutL, ↓e_cutKL, ↓e_cutT, ↓e_lenL, ↓e_lenKL, ↓e_lenT, ↓e_abs, ↓e_intI, ↓e_intB, ↓e_max2, ↓e_min2, ↓e_listL, ↓e_listT, ↓e_listNL, ↓e_listNT, ↓e_tupL, ↓e_tupT, ↓e_sum1T, ↓e_sum1L, ↓e_max1T, ↓e_max1L, ↓e_drI, ↓e_drB, ↓e_drS, ↓e_drN, ↓e_drL, ↓e_drT, ↓e_seq, ↓e_back, ↓e_backL, ↓e_backT, ↓e_sortedL, ↓e_sortedNL, ↓e_divmod, ↓e_lr1, ↓e_lr1K, ↓e_lr2, ↓e_lr2K, ↓e_lr3, ↓e_lr3K, ↓e_revR1, ↓e_revR1K, ↓e_srtSet, ↓e_unlL, ↓e_inL, ↓e_inKL, ↓e_inT, ↓e_inFlat, ↓e_drK, ↓e_srtSetL, ↓e_lenSet, ↓e_lenSetL, ↓e_enumF, ↓e_enumFT, ↓e_reprL, ↓e_reprT, ↓e_reprI, ↓e_reprB, ↓e_reprN, ↓e_reprS, ↓e_strI, ↓e_isub, ↓e_strB, ↓e_addBI, ↓e_subBI, ↓e_subIB, ↓e_drG, ↓e_dnew, ↓e_dgetF, ↓e_dget1, ↓e_dget2, ↓e_dsetdS, ↓e_dgPut, ↓e_lenSetZ, ↓e_lenSetZL, e_kyI, e_kyS, Nat.reduceAdd, Nat.zero_add, List.length_cons, List.length_nil, List.length_map, Nat.reduceLeDiff, and_true, true_and, if_true, ite_true, decide_eq_true_eq, Bool.not_eq_true, Bool.false_eq_true, if_false, ite_false, ↓reduceIte, Int.reduceToNat, Int.reducePow, ne_eq, q_okI, q_okB, q_okN, q_okS, q_okL, q_okT, q_oks0, q_oks1, q_eqII, q_eqBB, q_eqSS, q_eqLL, q_eqTT, q_eqNN, q_eqNI, q_eqIN, q_eqs0, q_eqs1, Bool.true_and, Bool.and_true, beq_iff_eq, reduceCtorEq, wipeE, List.set_cons_zero, List.set_cons_succ, List.set_nil, Bool.not_true, Bool.not_false, List.getElem?_cons_zero, List.getElem?_cons_succ])
  refine fun _ => ⟨by unfold layL; rw [List.length_map]; omega, ?_⟩
  unfold layL
  refine lc_map (layI L) D.int _ _ (by exact trivial) _ (fun z hz kd k => ?_) ?_
  · simp only [e1__law_right, layI]
    (try simp only [BEq.rfl, ↓e_v0, ↓e_vs, ↓e_c, ↓e_op, ↓e_un, ↓e_test, ↓e_testK, ↓e_tru, ↓e_truL, ↓e_truT, ↓e_truB, ↓e_truI, ↓e_truN, ↓e_truS, ↓e_not, ↓e_and, ↓e_or, ↓e_andv, ↓e_orv, ↓e_notv, ↓e_andK, ↓e_orK, ↓e_notK, ↓e_if, ↓e_nil, ↓e_cons, ↓e_tup, ↓e_lst, ↓e_new, ↓e_call, ↓e_callK, ↓e_drop, ↓e_ret, ↓e_retN, ↓e_pass, ↓e_ifS, ↓e_g0, ↓e_gs, ↓e_gnil, ↓e_gcons, ↓e_gtup, ↓e_asg, ↓e_par, ↓e_parK, ↓e_par3, ↓e_par3K, ↓e_chain, ↓e_chK, ↓e_no, ↓e_some, ↓e_someK, ↓e_cut, ↓e_b, ↓e_iter, ↓e_iterL, ↓e_iterT, ↓e_iterS, ↓e_rng1, ↓e_rng1K, ↓e_rng2, ↓e_rng2K, ↓e_rng3, ↓e_rng3K, ↓e_enum, ↓e_enumL, ↓e_enumT, ↓e_zip, ↓e_zipL, ↓e_zipT, ↓e_zipM, ↓e_zipMK, ↓e_zipS, ↓e_zipSK, ↓e_for, ↓e_lc, ↓e_lcNew, ↓e_forN, ↓e_forC, ↓e_lcN, ↓e_lcC, ↓e_srcN, ↓e_srcC, ↓e_meth, ↓e_isL, ↓e_sub, ↓e_aug, ↓e_augK, ↓e_isi, ↓e_yes, ↓e_bits, ↓e_bitsK, ↓e_cLast, ↓e_cLink, ↓e_cK, ↓e_cNext, ↓e_testCh, ↓e_addI, ↓e_addB, ↓e_addS, ↓e_addT, ↓e_addL, ↓e_subI, ↓e_mulI, ↓e_mulT, ↓e_mulL, ↓e_divI, ↓e_modI, ↓e_powI, ↓e_negI, ↓e_iadd, ↓e_cmpI, ↓e_eq, ↓e_ne, ↓e_isn, ↓e_isnn, ↓e_isb, ↓e_ixL, ↓e_ixKL, ↓e_ixT, ↓e_cutL, ↓e_cutKL, ↓e_cutT, ↓e_lenL, ↓e_lenKL, ↓e_lenT, ↓e_abs, ↓e_intI, ↓e_intB, ↓e_max2, ↓e_min2, ↓e_listL, ↓e_listT, ↓e_listNL, ↓e_listNT, ↓e_tupL, ↓e_tupT, ↓e_sum1T, ↓e_sum1L, ↓e_max1T, ↓e_max1L, ↓e_drI, ↓e_drB, ↓e_drS, ↓e_drN, ↓e_drL, ↓e_drT, ↓e_seq, ↓e_back, ↓e_backL, ↓e_backT, ↓e_sortedL, ↓e_sortedNL, ↓e_divmod, ↓e_lr1, ↓e_lr1K, ↓e_lr2, ↓e_lr2K, ↓e_lr3, ↓e_lr3K, ↓e_revR1, ↓e_revR1K, ↓e_srtSet, ↓e_unlL, ↓e_inL, ↓e_inKL, ↓e_inT, ↓e_inFlat, ↓e_drK, ↓e_srtSetL, ↓e_lenSet, ↓e_lenSetL, ↓e_enumF, ↓e_enumFT, ↓e_reprL, ↓e_reprT, ↓e_reprI, ↓e_reprB, ↓e_reprN, ↓e_reprS, ↓e_strI, ↓e_isub, ↓e_strB, ↓e_addBI, ↓e_subBI, ↓e_subIB, ↓e_drG, ↓e_dnew, ↓e_dgetF, ↓e_dget1, ↓e_dget2, ↓e_dsetdS, ↓e_dgPut, ↓e_lenSetZ, ↓e_lenSetZL, e_kyI, e_kyS, Nat.reduceAdd, Nat.zero_add, List.length_cons, List.length_nil, List.length_map, Nat.reduceLeDiff, and_true, true_and, if_true, ite_true, decide_eq_true_eq, Bool.not_eq_true, Bool.false_eq_true, if_false, ite_false, ↓reduceIte, Int.reduceToNat, Int.reducePow, ne_eq, q_okI, q_okB, q_okN, q_okS, q_okL, q_okT, q_oks0, q_oks1, q_eqII, q_eqBB, q_eqSS, q_eqLL, q_eqTT, q_eqNN, q_eqNI, q_eqIN, q_eqs0, q_eqs1, Bool.true_and, Bool.and_true, beq_iff_eq, reduceCtorEq, wipeE, List.set_cons_zero, List.set_cons_succ, List.set_nil, Bool.not_true, Bool.not_false, List.getElem?_cons_zero, List.getElem?_cons_succ])
    exact k
  rw [List.nil_append, LS]
  (try simp only [BEq.rfl, ↓e_v0, ↓e_vs, ↓e_c, ↓e_op, ↓e_un, ↓e_test, ↓e_testK, ↓e_tru, ↓e_truL, ↓e_truT, ↓e_truB, ↓e_truI, ↓e_truN, ↓e_truS, ↓e_not, ↓e_and, ↓e_or, ↓e_andv, ↓e_orv, ↓e_notv, ↓e_andK, ↓e_orK, ↓e_notK, ↓e_if, ↓e_nil, ↓e_cons, ↓e_tup, ↓e_lst, ↓e_new, ↓e_call, ↓e_callK, ↓e_drop, ↓e_ret, ↓e_retN, ↓e_pass, ↓e_ifS, ↓e_g0, ↓e_gs, ↓e_gnil, ↓e_gcons, ↓e_gtup, ↓e_asg, ↓e_par, ↓e_parK, ↓e_par3, ↓e_par3K, ↓e_chain, ↓e_chK, ↓e_no, ↓e_some, ↓e_someK, ↓e_cut, ↓e_b, ↓e_iter, ↓e_iterL, ↓e_iterT, ↓e_iterS, ↓e_rng1, ↓e_rng1K, ↓e_rng2, ↓e_rng2K, ↓e_rng3, ↓e_rng3K, ↓e_enum, ↓e_enumL, ↓e_enumT, ↓e_zip, ↓e_zipL, ↓e_zipT, ↓e_zipM, ↓e_zipMK, ↓e_zipS, ↓e_zipSK, ↓e_for, ↓e_lc, ↓e_lcNew, ↓e_meth, ↓e_isL, ↓e_sub, ↓e_aug, ↓e_augK, ↓e_isi, ↓e_yes, ↓e_bits, ↓e_bitsK, ↓e_cLast, ↓e_cLink, ↓e_cK, ↓e_cNext, ↓e_testCh, ↓e_addI, ↓e_addB, ↓e_addS, ↓e_addT, ↓e_addL, ↓e_subI, ↓e_mulI, ↓e_mulT, ↓e_mulL, ↓e_divI, ↓e_modI, ↓e_powI, ↓e_negI, ↓e_iadd, ↓e_cmpI, ↓e_eq, ↓e_ne, ↓e_isn, ↓e_isnn, ↓e_isb, ↓e_ixL, ↓e_ixKL, ↓e_ixT, ↓e_cutL, ↓e_cutKL, ↓e_cutT, ↓e_lenL, ↓e_lenKL, ↓e_lenT, ↓e_abs, ↓e_intI, ↓e_intB, ↓e_max2, ↓e_min2, ↓e_listL, ↓e_listT, ↓e_listNL, ↓e_listNT, ↓e_tupL, ↓e_tupT, ↓e_sum1T, ↓e_sum1L, ↓e_max1T, ↓e_max1L, ↓e_drI, ↓e_drB, ↓e_drS, ↓e_drN, ↓e_drL, ↓e_drT, ↓e_seq, ↓e_back, ↓e_backL, ↓e_backT, ↓e_sortedL, ↓e_sortedNL, ↓e_divmod, ↓e_lr1, ↓e_lr1K, ↓e_lr2, ↓e_lr2K, ↓e_lr3, ↓e_lr3K, ↓e_revR1, ↓e_revR1K, ↓e_srtSet, ↓e_unlL, ↓e_inL, ↓e_inKL, ↓e_inT, ↓e_inFlat, ↓e_drK, ↓e_srtSetL, ↓e_lenSet, ↓e_lenSetL, ↓e_enumF, ↓e_enumFT, ↓e_reprL, ↓e_reprT, ↓e_reprI, ↓e_reprB, ↓e_reprN, ↓e_reprS, ↓e_strI, ↓e_isub, ↓e_strB, ↓e_addBI, ↓e_subBI, ↓e_subIB, ↓e_drG, ↓e_dnew, ↓e_dgetF, ↓e_dget1, ↓e_dget2, ↓e_dsetdS, ↓e_dgPut, ↓e_lenSetZ, ↓e_lenSetZL, e_kyI, e_kyS, Nat.reduceAdd, Nat.zero_add, List.length_cons, List.length_nil, List.length_map, Nat.reduceLeDiff, and_true, true_and, if_true, ite_true, decide_eq_true_eq, Bool.not_eq_true, Bool.false_eq_true, if_false, ite_false, ↓reduceIte, Int.reduceToNat, Int.reducePow, ne_eq, q_okI, q_okB, q_okN, q_okS, q_okL, q_okT, q_oks0, q_oks1, q_eqII, q_eqBB, q_eqSS, q_eqLL, q_eqTT, q_eqNN, q_eqNI, q_eqIN, q_eqs0, q_eqs1, Bool.true_and, Bool.and_true, beq_iff_eq, reduceCtorEq, wipeE, List.set_cons_zero, List.set_cons_succ, List.set_nil, Bool.not_true, Bool.not_false, List.getElem?_cons_zero, List.getElem?_cons_succ])
  refine ⟨okDs_int _ _, okDs_int _ _, ?_⟩
  rw [eqDs_ints, decide_eq_true rfl]
  (try simp only [BEq.rfl, ↓e_v0, ↓e_vs, ↓e_c, ↓e_op, ↓e_un, ↓e_test, ↓e_testK, ↓e_tru, ↓e_truL, ↓e_truT, ↓e_truB, ↓e_truI, ↓e_truN, ↓e_truS, ↓e_not, ↓e_and, ↓e_or, ↓e_andv, ↓e_orv, ↓e_notv, ↓e_andK, ↓e_orK, ↓e_notK, ↓e_if, ↓e_nil, ↓e_cons, ↓e_tup, ↓e_lst, ↓e_new, ↓e_call, ↓e_callK, ↓e_drop, ↓e_ret, ↓e_retN, ↓e_pass, ↓e_ifS, ↓e_g0, ↓e_gs, ↓e_gnil, ↓e_gcons, ↓e_gtup, ↓e_asg, ↓e_par, ↓e_parK, ↓e_par3, ↓e_par3K, ↓e_chain, ↓e_chK, ↓e_no, ↓e_some, ↓e_someK, ↓e_cut, ↓e_b, ↓e_iter, ↓e_iterL, ↓e_iterT, ↓e_iterS, ↓e_rng1, ↓e_rng1K, ↓e_rng2, ↓e_rng2K, ↓e_rng3, ↓e_rng3K, ↓e_enum, ↓e_enumL, ↓e_enumT, ↓e_zip, ↓e_zipL, ↓e_zipT, ↓e_zipM, ↓e_zipMK, ↓e_zipS, ↓e_zipSK, ↓e_for, ↓e_lc, ↓e_lcNew, ↓e_meth, ↓e_isL, ↓e_sub, ↓e_aug, ↓e_augK, ↓e_isi, ↓e_yes, ↓e_bits, ↓e_bitsK, ↓e_cLast, ↓e_cLink, ↓e_cK, ↓e_cNext, ↓e_testCh, ↓e_addI, ↓e_addB, ↓e_addS, ↓e_addT, ↓e_addL, ↓e_subI, ↓e_mulI, ↓e_mulT, ↓e_mulL, ↓e_divI, ↓e_modI, ↓e_powI, ↓e_negI, ↓e_iadd, ↓e_cmpI, ↓e_eq, ↓e_ne, ↓e_isn, ↓e_isnn, ↓e_isb, ↓e_ixL, ↓e_ixKL, ↓e_ixT, ↓e_cutL, ↓e_cutKL, ↓e_cutT, ↓e_lenL, ↓e_lenKL, ↓e_lenT, ↓e_abs, ↓e_intI, ↓e_intB, ↓e_max2, ↓e_min2, ↓e_listL, ↓e_listT, ↓e_listNL, ↓e_listNT, ↓e_tupL, ↓e_tupT, ↓e_sum1T, ↓e_sum1L, ↓e_max1T, ↓e_max1L, ↓e_drI, ↓e_drB, ↓e_drS, ↓e_drN, ↓e_drL, ↓e_drT, ↓e_seq, ↓e_back, ↓e_backL, ↓e_backT, ↓e_sortedL, ↓e_sortedNL, ↓e_divmod, ↓e_lr1, ↓e_lr1K, ↓e_lr2, ↓e_lr2K, ↓e_lr3, ↓e_lr3K, ↓e_revR1, ↓e_revR1K, ↓e_srtSet, ↓e_unlL, ↓e_inL, ↓e_inKL, ↓e_inT, ↓e_inFlat, ↓e_drK, ↓e_srtSetL, ↓e_lenSet, ↓e_lenSetL, ↓e_enumF, ↓e_enumFT, ↓e_reprL, ↓e_reprT, ↓e_reprI, ↓e_reprB, ↓e_reprN, ↓e_reprS, ↓e_strI, ↓e_isub, ↓e_strB, ↓e_addBI, ↓e_subBI, ↓e_subIB, ↓e_drG, ↓e_dnew, ↓e_dgetF, ↓e_dget1, ↓e_dget2, ↓e_dsetdS, ↓e_dgPut, ↓e_lenSetZ, ↓e_lenSetZL, e_kyI, e_kyS, Nat.reduceAdd, Nat.zero_add, List.length_cons, List.length_nil, List.length_map, Nat.reduceLeDiff, and_true, true_and, if_true, ite_true, decide_eq_true_eq, Bool.not_eq_true, Bool.false_eq_true, if_false, ite_false, ↓reduceIte, Int.reduceToNat, Int.reducePow, ne_eq, q_okI, q_okB, q_okN, q_okS, q_okL, q_okT, q_oks0, q_oks1, q_eqII, q_eqBB, q_eqSS, q_eqLL, q_eqTT, q_eqNN, q_eqNI, q_eqIN, q_eqs0, q_eqs1, Bool.true_and, Bool.and_true, beq_iff_eq, reduceCtorEq, wipeE, List.set_cons_zero, List.set_cons_succ, List.set_nil, Bool.not_true, Bool.not_false, List.getElem?_cons_zero, List.getElem?_cons_succ])
  refine ⟨_, _, rfl, ?_⟩
  (try simp only [BEq.rfl, ↓e_v0, ↓e_vs, ↓e_c, ↓e_op, ↓e_un, ↓e_test, ↓e_testK, ↓e_tru, ↓e_truL, ↓e_truT, ↓e_truB, ↓e_truI, ↓e_truN, ↓e_truS, ↓e_not, ↓e_and, ↓e_or, ↓e_andv, ↓e_orv, ↓e_notv, ↓e_andK, ↓e_orK, ↓e_notK, ↓e_if, ↓e_nil, ↓e_cons, ↓e_tup, ↓e_lst, ↓e_new, ↓e_call, ↓e_callK, ↓e_drop, ↓e_ret, ↓e_retN, ↓e_pass, ↓e_ifS, ↓e_g0, ↓e_gs, ↓e_gnil, ↓e_gcons, ↓e_gtup, ↓e_asg, ↓e_par, ↓e_parK, ↓e_par3, ↓e_par3K, ↓e_chain, ↓e_chK, ↓e_no, ↓e_some, ↓e_someK, ↓e_cut, ↓e_b, ↓e_iter, ↓e_iterL, ↓e_iterT, ↓e_iterS, ↓e_rng1, ↓e_rng1K, ↓e_rng2, ↓e_rng2K, ↓e_rng3, ↓e_rng3K, ↓e_enum, ↓e_enumL, ↓e_enumT, ↓e_zip, ↓e_zipL, ↓e_zipT, ↓e_zipM, ↓e_zipMK, ↓e_zipS, ↓e_zipSK, ↓e_for, ↓e_lc, ↓e_lcNew, ↓e_meth, ↓e_isL, ↓e_sub, ↓e_aug, ↓e_augK, ↓e_isi, ↓e_yes, ↓e_bits, ↓e_bitsK, ↓e_cLast, ↓e_cLink, ↓e_cK, ↓e_cNext, ↓e_testCh, ↓e_addI, ↓e_addB, ↓e_addS, ↓e_addT, ↓e_addL, ↓e_subI, ↓e_mulI, ↓e_mulT, ↓e_mulL, ↓e_divI, ↓e_modI, ↓e_powI, ↓e_negI, ↓e_iadd, ↓e_cmpI, ↓e_eq, ↓e_ne, ↓e_isn, ↓e_isnn, ↓e_isb, ↓e_ixL, ↓e_ixKL, ↓e_ixT, ↓e_cutL, ↓e_cutKL, ↓e_cutT, ↓e_lenL, ↓e_lenKL, ↓e_lenT, ↓e_abs, ↓e_intI, ↓e_intB, ↓e_max2, ↓e_min2, ↓e_listL, ↓e_listT, ↓e_listNL, ↓e_listNT, ↓e_tupL, ↓e_tupT, ↓e_sum1T, ↓e_sum1L, ↓e_max1T, ↓e_max1L, ↓e_drI, ↓e_drB, ↓e_drS, ↓e_drN, ↓e_drL, ↓e_drT, ↓e_seq, ↓e_back, ↓e_backL, ↓e_backT, ↓e_sortedL, ↓e_sortedNL, ↓e_divmod, ↓e_lr1, ↓e_lr1K, ↓e_lr2, ↓e_lr2K, ↓e_lr3, ↓e_lr3K, ↓e_revR1, ↓e_revR1K, ↓e_srtSet, ↓e_unlL, ↓e_inL, ↓e_inKL, ↓e_inT, ↓e_inFlat, ↓e_drK, ↓e_srtSetL, ↓e_lenSet, ↓e_lenSetL, ↓e_enumF, ↓e_enumFT, ↓e_reprL, ↓e_reprT, ↓e_reprI, ↓e_reprB, ↓e_reprN, ↓e_reprS, ↓e_strI, ↓e_isub, ↓e_strB, ↓e_addBI, ↓e_subBI, ↓e_subIB, ↓e_drG, ↓e_dnew, ↓e_dgetF, ↓e_dget1, ↓e_dget2, ↓e_dsetdS, ↓e_dgPut, ↓e_lenSetZ, ↓e_lenSetZL, e_kyI, e_kyS, Nat.reduceAdd, Nat.zero_add, List.length_cons, List.length_nil, List.length_map, Nat.reduceLeDiff, and_true, true_and, if_true, ite_true, decide_eq_true_eq, Bool.not_eq_true, Bool.false_eq_true, if_false, ite_false, ↓reduceIte, Int.reduceToNat, Int.reducePow, ne_eq, q_okI, q_okB, q_okN, q_okS, q_okL, q_okT, q_oks0, q_oks1, q_eqII, q_eqBB, q_eqSS, q_eqLL, q_eqTT, q_eqNN, q_eqNI, q_eqIN, q_eqs0, q_eqs1, Bool.true_and, Bool.and_true, beq_iff_eq, reduceCtorEq, wipeE, List.set_cons_zero, List.set_cons_succ, List.set_nil, Bool.not_true, Bool.not_false, List.getElem?_cons_zero, List.getElem?_cons_succ])
  rw [oddsR_length, if_neg (by have : ((spotR R).toNat : Int) = (R.2 - R.1) / 2 + 1 := by rw [Int.toNat_of_nonneg (by omega)]; rfl
                               simp [this])]
  simp only [z7__law_right]
  (try simp only [BEq.rfl, ↓e_v0, ↓e_vs, ↓e_c, ↓e_op, ↓e_un, ↓e_test, ↓e_testK, ↓e_tru, ↓e_truL, ↓e_truT, ↓e_truB, ↓e_truI, ↓e_truN, ↓e_truS, ↓e_not, ↓e_and, ↓e_or, ↓e_andv, ↓e_orv, ↓e_notv, ↓e_andK, ↓e_orK, ↓e_notK, ↓e_if, ↓e_nil, ↓e_cons, ↓e_tup, ↓e_lst, ↓e_new, ↓e_call, ↓e_callK, ↓e_drop, ↓e_ret, ↓e_retN, ↓e_pass, ↓e_ifS, ↓e_g0, ↓e_gs, ↓e_gnil, ↓e_gcons, ↓e_gtup, ↓e_asg, ↓e_par, ↓e_parK, ↓e_par3, ↓e_par3K, ↓e_chain, ↓e_chK, ↓e_no, ↓e_some, ↓e_someK, ↓e_cut, ↓e_b, ↓e_iter, ↓e_iterL, ↓e_iterT, ↓e_iterS, ↓e_rng1, ↓e_rng1K, ↓e_rng2, ↓e_rng2K, ↓e_rng3, ↓e_rng3K, ↓e_enum, ↓e_enumL, ↓e_enumT, ↓e_zip, ↓e_zipL, ↓e_zipT, ↓e_zipM, ↓e_zipMK, ↓e_zipS, ↓e_zipSK, ↓e_for, ↓e_lc, ↓e_lcNew, ↓e_meth, ↓e_isL, ↓e_sub, ↓e_aug, ↓e_augK, ↓e_isi, ↓e_yes, ↓e_bits, ↓e_bitsK, ↓e_cLast, ↓e_cLink, ↓e_cK, ↓e_cNext, ↓e_testCh, ↓e_addI, ↓e_addB, ↓e_addS, ↓e_addT, ↓e_addL, ↓e_subI, ↓e_mulI, ↓e_mulT, ↓e_mulL, ↓e_divI, ↓e_modI, ↓e_powI, ↓e_negI, ↓e_iadd, ↓e_cmpI, ↓e_eq, ↓e_ne, ↓e_isn, ↓e_isnn, ↓e_isb, ↓e_ixL, ↓e_ixKL, ↓e_ixT, ↓e_cutL, ↓e_cutKL, ↓e_cutT, ↓e_lenL, ↓e_lenKL, ↓e_lenT, ↓e_abs, ↓e_intI, ↓e_intB, ↓e_max2, ↓e_min2, ↓e_listL, ↓e_listT, ↓e_listNL, ↓e_listNT, ↓e_tupL, ↓e_tupT, ↓e_sum1T, ↓e_sum1L, ↓e_max1T, ↓e_max1L, ↓e_drI, ↓e_drB, ↓e_drS, ↓e_drN, ↓e_drL, ↓e_drT, ↓e_seq, ↓e_back, ↓e_backL, ↓e_backT, ↓e_sortedL, ↓e_sortedNL, ↓e_divmod, ↓e_lr1, ↓e_lr1K, ↓e_lr2, ↓e_lr2K, ↓e_lr3, ↓e_lr3K, ↓e_revR1, ↓e_revR1K, ↓e_srtSet, ↓e_unlL, ↓e_inL, ↓e_inKL, ↓e_inT, ↓e_inFlat, ↓e_drK, ↓e_srtSetL, ↓e_lenSet, ↓e_lenSetL, ↓e_enumF, ↓e_enumFT, ↓e_reprL, ↓e_reprT, ↓e_reprI, ↓e_reprB, ↓e_reprN, ↓e_reprS, ↓e_strI, ↓e_isub, ↓e_strB, ↓e_addBI, ↓e_subBI, ↓e_subIB, ↓e_drG, ↓e_dnew, ↓e_dgetF, ↓e_dget1, ↓e_dget2, ↓e_dsetdS, ↓e_dgPut, ↓e_lenSetZ, ↓e_lenSetZL, e_kyI, e_kyS, Nat.reduceAdd, Nat.zero_add, List.length_cons, List.length_nil, List.length_map, Nat.reduceLeDiff, and_true, true_and, if_true, ite_true, decide_eq_true_eq, Bool.not_eq_true, Bool.false_eq_true, if_false, ite_false, ↓reduceIte, Int.reduceToNat, Int.reducePow, ne_eq, q_okI, q_okB, q_okN, q_okS, q_okL, q_okT, q_oks0, q_oks1, q_eqII, q_eqBB, q_eqSS, q_eqLL, q_eqTT, q_eqNN, q_eqNI, q_eqIN, q_eqs0, q_eqs1, Bool.true_and, Bool.and_true, beq_iff_eq, reduceCtorEq, wipeE, List.set_cons_zero, List.set_cons_succ, List.set_nil, Bool.not_true, Bool.not_false, List.getElem?_cons_zero, List.getElem?_cons_succ])
  simp only [z8__law_right]
  (try simp only [BEq.rfl, ↓e_v0, ↓e_vs, ↓e_c, ↓e_op, ↓e_un, ↓e_test, ↓e_testK, ↓e_tru, ↓e_truL, ↓e_truT, ↓e_truB, ↓e_truI, ↓e_truN, ↓e_truS, ↓e_not, ↓e_and, ↓e_or, ↓e_andv, ↓e_orv, ↓e_notv, ↓e_andK, ↓e_orK, ↓e_notK, ↓e_if, ↓e_nil, ↓e_cons, ↓e_tup, ↓e_lst, ↓e_new, ↓e_call, ↓e_callK, ↓e_drop, ↓e_ret, ↓e_retN, ↓e_pass, ↓e_ifS, ↓e_g0, ↓e_gs, ↓e_gnil, ↓e_gcons, ↓e_gtup, ↓e_asg, ↓e_par, ↓e_parK, ↓e_par3, ↓e_par3K, ↓e_chain, ↓e_chK, ↓e_no, ↓e_some, ↓e_someK, ↓e_cut, ↓e_b, ↓e_iter, ↓e_iterL, ↓e_iterT, ↓e_iterS, ↓e_rng1, ↓e_rng1K, ↓e_rng2, ↓e_rng2K, ↓e_rng3, ↓e_rng3K, ↓e_enum, ↓e_enumL, ↓e_enumT, ↓e_zip, ↓e_zipL, ↓e_zipT, ↓e_zipM, ↓e_zipMK, ↓e_zipS, ↓e_zipSK, ↓e_for, ↓e_lc, ↓e_lcNew, ↓e_meth, ↓e_isL, ↓e_sub, ↓e_aug, ↓e_augK, ↓e_isi, ↓e_yes, ↓e_bits, ↓e_bitsK, ↓e_cLast, ↓e_cLink, ↓e_cK, ↓e_cNext, ↓e_testCh, ↓e_addI, ↓e_addB, ↓e_addS, ↓e_addT, ↓e_addL, ↓e_subI, ↓e_mulI, ↓e_mulT, ↓e_mulL, ↓e_divI, ↓e_modI, ↓e_powI, ↓e_negI, ↓e_iadd, ↓e_cmpI, ↓e_eq, ↓e_ne, ↓e_isn, ↓e_isnn, ↓e_isb, ↓e_ixL, ↓e_ixKL, ↓e_ixT, ↓e_cutL, ↓e_cutKL, ↓e_cutT, ↓e_lenL, ↓e_lenKL, ↓e_lenT, ↓e_abs, ↓e_intI, ↓e_intB, ↓e_max2, ↓e_min2, ↓e_listL, ↓e_listT, ↓e_listNL, ↓e_listNT, ↓e_tupL, ↓e_tupT, ↓e_sum1T, ↓e_sum1L, ↓e_max1T, ↓e_max1L, ↓e_drI, ↓e_drB, ↓e_drS, ↓e_drN, ↓e_drL, ↓e_drT, ↓e_seq, ↓e_back, ↓e_backL, ↓e_backT, ↓e_sortedL, ↓e_sortedNL, ↓e_divmod, ↓e_lr1, ↓e_lr1K, ↓e_lr2, ↓e_lr2K, ↓e_lr3, ↓e_lr3K, ↓e_revR1, ↓e_revR1K, ↓e_srtSet, ↓e_unlL, ↓e_inL, ↓e_inKL, ↓e_inT, ↓e_inFlat, ↓e_drK, ↓e_srtSetL, ↓e_lenSet, ↓e_lenSetL, ↓e_enumF, ↓e_enumFT, ↓e_reprL, ↓e_reprT, ↓e_reprI, ↓e_reprB, ↓e_reprN, ↓e_reprS, ↓e_strI, ↓e_isub, ↓e_strB, ↓e_addBI, ↓e_subBI, ↓e_subIB, ↓e_drG, ↓e_dnew, ↓e_dgetF, ↓e_dget1, ↓e_dget2, ↓e_dsetdS, ↓e_dgPut, ↓e_lenSetZ, ↓e_lenSetZL, e_kyI, e_kyS, Nat.reduceAdd, Nat.zero_add, List.length_cons, List.length_nil, List.length_map, Nat.reduceLeDiff, and_true, true_and, if_true, ite_true, decide_eq_true_eq, Bool.not_eq_true, Bool.false_eq_true, if_false, ite_false, ↓reduceIte, Int.reduceToNat, Int.reducePow, ne_eq, q_okI, q_okB, q_okN, q_okS, q_okL, q_okT, q_oks0, q_oks1, q_eqII, q_eqBB, q_eqSS, q_eqLL, q_eqTT, q_eqNN, q_eqNI, q_eqIN, q_eqs0, q_eqs1, Bool.true_and, Bool.and_true, beq_iff_eq, reduceCtorEq, wipeE, List.set_cons_zero, List.set_cons_succ, List.set_nil, Bool.not_true, Bool.not_false, List.getElem?_cons_zero, List.getElem?_cons_succ])
  rw [← LS]
  intro _
  refine go_for (layI L) (fun us env s => s = S ∧ ∃ (dn : List Int) (v8 v9 v10 v12 v13 v14 v15 v16 : Option D), dn ++ us = setZ L ∧ env = [some (.obj i), some (.int h), some (.tup (row.map D.int)), some (.tup (more.map D.int)), some (tupR R), some (.lst ((setZ L).map D.int)), some (.lst ((setZ L).map (layI L))), some (.lst (L.map D.int)), v8, v9, v10, some (.lst ((dn.flatMap fun z => idxF z L 0).map D.int)), v12, v13, v14, v15, v16]) ?_ ?_ _ _ _ ⟨rfl, [], _, _, _, _, _, _, _, _, rfl, rfl⟩
  · rintro z us _ _ nx ⟨rfl, dn, v8, v9, v10, v12, v13, v14, v15, v16, hd, rfl⟩ q2
    refine ⟨trivial, ?_⟩
    simp only [layI]
    (try simp only [BEq.rfl, ↓e_v0, ↓e_vs, ↓e_c, ↓e_op, ↓e_un, ↓e_test, ↓e_testK, ↓e_tru, ↓e_truL, ↓e_truT, ↓e_truB, ↓e_truI, ↓e_truN, ↓e_truS, ↓e_not, ↓e_and, ↓e_or, ↓e_andv, ↓e_orv, ↓e_notv, ↓e_andK, ↓e_orK, ↓e_notK, ↓e_if, ↓e_nil, ↓e_cons, ↓e_tup, ↓e_lst, ↓e_new, ↓e_call, ↓e_callK, ↓e_drop, ↓e_ret, ↓e_retN, ↓e_pass, ↓e_ifS, ↓e_g0, ↓e_gs, ↓e_gnil, ↓e_gcons, ↓e_gtup, ↓e_asg, ↓e_par, ↓e_parK, ↓e_par3, ↓e_par3K, ↓e_chain, ↓e_chK, ↓e_no, ↓e_some, ↓e_someK, ↓e_cut, ↓e_b, ↓e_iter, ↓e_iterL, ↓e_iterT, ↓e_iterS, ↓e_rng1, ↓e_rng1K, ↓e_rng2, ↓e_rng2K, ↓e_rng3, ↓e_rng3K, ↓e_enum, ↓e_enumL, ↓e_enumT, ↓e_zip, ↓e_zipL, ↓e_zipT, ↓e_zipM, ↓e_zipMK, ↓e_zipS, ↓e_zipSK, ↓e_for, ↓e_lc, ↓e_lcNew, ↓e_meth, ↓e_isL, ↓e_sub, ↓e_aug, ↓e_augK, ↓e_isi, ↓e_yes, ↓e_bits, ↓e_bitsK, ↓e_cLast, ↓e_cLink, ↓e_cK, ↓e_cNext, ↓e_testCh, ↓e_addI, ↓e_addB, ↓e_addS, ↓e_addT, ↓e_addL, ↓e_subI, ↓e_mulI, ↓e_mulT, ↓e_mulL, ↓e_divI, ↓e_modI, ↓e_powI, ↓e_negI, ↓e_iadd, ↓e_cmpI, ↓e_eq, ↓e_ne, ↓e_isn, ↓e_isnn, ↓e_isb, ↓e_ixL, ↓e_ixKL, ↓e_ixT, ↓e_cutL, ↓e_cutKL, ↓e_cutT, ↓e_lenL, ↓e_lenKL, ↓e_lenT, ↓e_abs, ↓e_intI, ↓e_intB, ↓e_max2, ↓e_min2, ↓e_listL, ↓e_listT, ↓e_listNL, ↓e_listNT, ↓e_tupL, ↓e_tupT, ↓e_sum1T, ↓e_sum1L, ↓e_max1T, ↓e_max1L, ↓e_drI, ↓e_drB, ↓e_drS, ↓e_drN, ↓e_drL, ↓e_drT, ↓e_seq, ↓e_back, ↓e_backL, ↓e_backT, ↓e_sortedL, ↓e_sortedNL, ↓e_divmod, ↓e_lr1, ↓e_lr1K, ↓e_lr2, ↓e_lr2K, ↓e_lr3, ↓e_lr3K, ↓e_revR1, ↓e_revR1K, ↓e_srtSet, ↓e_unlL, ↓e_inL, ↓e_inKL, ↓e_inT, ↓e_inFlat, ↓e_drK, ↓e_srtSetL, ↓e_lenSet, ↓e_lenSetL, ↓e_enumF, ↓e_enumFT, ↓e_reprL, ↓e_reprT, ↓e_reprI, ↓e_reprB, ↓e_reprN, ↓e_reprS, ↓e_strI, ↓e_isub, ↓e_strB, ↓e_addBI, ↓e_subBI, ↓e_subIB, ↓e_drG, ↓e_dnew, ↓e_dgetF, ↓e_dget1, ↓e_dget2, ↓e_dsetdS, ↓e_dgPut, ↓e_lenSetZ, ↓e_lenSetZL, e_kyI, e_kyS, Nat.reduceAdd, Nat.zero_add, List.length_cons, List.length_nil, List.length_map, Nat.reduceLeDiff, and_true, true_and, if_true, ite_true, decide_eq_true_eq, Bool.not_eq_true, Bool.false_eq_true, if_false, ite_false, ↓reduceIte, Int.reduceToNat, Int.reducePow, ne_eq, q_okI, q_okB, q_okN, q_okS, q_okL, q_okT, q_oks0, q_oks1, q_eqII, q_eqBB, q_eqSS, q_eqLL, q_eqTT, q_eqNN, q_eqNI, q_eqIN, q_eqs0, q_eqs1, Bool.true_and, Bool.and_true, beq_iff_eq, reduceCtorEq, wipeE, List.set_cons_zero, List.set_cons_succ, List.set_nil, Bool.not_true, Bool.not_false, List.getElem?_cons_zero, List.getElem?_cons_succ])
    simp only [b1__law_right]
    (try simp only [BEq.rfl, ↓e_v0, ↓e_vs, ↓e_c, ↓e_op, ↓e_un, ↓e_test, ↓e_testK, ↓e_tru, ↓e_truL, ↓e_truT, ↓e_truB, ↓e_truI, ↓e_truN, ↓e_truS, ↓e_not, ↓e_and, ↓e_or, ↓e_andv, ↓e_orv, ↓e_notv, ↓e_andK, ↓e_orK, ↓e_notK, ↓e_if, ↓e_nil, ↓e_cons, ↓e_tup, ↓e_lst, ↓e_new, ↓e_call, ↓e_callK, ↓e_drop, ↓e_ret, ↓e_retN, ↓e_pass, ↓e_ifS, ↓e_g0, ↓e_gs, ↓e_gnil, ↓e_gcons, ↓e_gtup, ↓e_asg, ↓e_par, ↓e_parK, ↓e_par3, ↓e_par3K, ↓e_chain, ↓e_chK, ↓e_no, ↓e_some, ↓e_someK, ↓e_cut, ↓e_b, ↓e_iter, ↓e_iterL, ↓e_iterT, ↓e_iterS, ↓e_rng1, ↓e_rng1K, ↓e_rng2, ↓e_rng2K, ↓e_rng3, ↓e_rng3K, ↓e_enum, ↓e_enumL, ↓e_enumT, ↓e_zip, ↓e_zipL, ↓e_zipT, ↓e_zipM, ↓e_zipMK, ↓e_zipS, ↓e_zipSK, ↓e_for, ↓e_lc, ↓e_lcNew, ↓e_meth, ↓e_isL, ↓e_sub, ↓e_aug, ↓e_augK, ↓e_isi, ↓e_yes, ↓e_bits, ↓e_bitsK, ↓e_cLast, ↓e_cLink, ↓e_cK, ↓e_cNext, ↓e_testCh, ↓e_addI, ↓e_addB, ↓e_addS, ↓e_addT, ↓e_addL, ↓e_subI, ↓e_mulI, ↓e_mulT, ↓e_mulL, ↓e_divI, ↓e_modI, ↓e_powI, ↓e_negI, ↓e_iadd, ↓e_cmpI, ↓e_eq, ↓e_ne, ↓e_isn, ↓e_isnn, ↓e_isb, ↓e_ixL, ↓e_ixKL, ↓e_ixT, ↓e_cutL, ↓e_cutKL, ↓e_cutT, ↓e_lenL, ↓e_lenKL, ↓e_lenT, ↓e_abs, ↓e_intI, ↓e_intB, ↓e_max2, ↓e_min2, ↓e_listL, ↓e_listT, ↓e_listNL, ↓e_listNT, ↓e_tupL, ↓e_tupT, ↓e_sum1T, ↓e_sum1L, ↓e_max1T, ↓e_max1L, ↓e_drI, ↓e_drB, ↓e_drS, ↓e_drN, ↓e_drL, ↓e_drT, ↓e_seq, ↓e_back, ↓e_backL, ↓e_backT, ↓e_sortedL, ↓e_sortedNL, ↓e_divmod, ↓e_lr1, ↓e_lr1K, ↓e_lr2, ↓e_lr2K, ↓e_lr3, ↓e_lr3K, ↓e_revR1, ↓e_revR1K, ↓e_srtSet, ↓e_unlL, ↓e_inL, ↓e_inKL, ↓e_inT, ↓e_inFlat, ↓e_drK, ↓e_srtSetL, ↓e_lenSet, ↓e_lenSetL, ↓e_enumF, ↓e_enumFT, ↓e_reprL, ↓e_reprT, ↓e_reprI, ↓e_reprB, ↓e_reprN, ↓e_reprS, ↓e_strI, ↓e_isub, ↓e_strB, ↓e_addBI, ↓e_subBI, ↓e_subIB, ↓e_drG, ↓e_dnew, ↓e_dgetF, ↓e_dget1, ↓e_dget2, ↓e_dsetdS, ↓e_dgPut, ↓e_lenSetZ, ↓e_lenSetZL, e_kyI, e_kyS, Nat.reduceAdd, Nat.zero_add, List.length_cons, List.length_nil, List.length_map, Nat.reduceLeDiff, and_true, true_and, if_true, ite_true, decide_eq_true_eq, Bool.not_eq_true, Bool.false_eq_true, if_false, ite_false, ↓reduceIte, Int.reduceToNat, Int.reducePow, ne_eq, q_okI, q_okB, q_okN, q_okS, q_okL, q_okT, q_oks0, q_oks1, q_eqII, q_eqBB, q_eqSS, q_eqLL, q_eqTT, q_eqNN, q_eqNI, q_eqIN, q_eqs0, q_eqs1, Bool.true_and, Bool.and_true, beq_iff_eq, reduceCtorEq, wipeE, List.set_cons_zero, List.set_cons_succ, List.set_nil, Bool.not_true, Bool.not_false, List.getElem?_cons_zero, List.getElem?_cons_succ])
    have bnd : (dn.flatMap fun z => idxF z L 0).length ≤ 64 ∧ (idxF z L 0).length ≤ 8 := by
      have a : ∀ z, (idxF z L 0).length ≤ 8 := fun z => by have := idxF_len z L 0; omega
      have b : dn.length ≤ 8 := by
        have := congrArg List.length hd
        rw [List.length_append] at this
        omega
      refine ⟨?_, a z⟩
      have c : ∀ dn : List Int, (dn.flatMap fun z => idxF z L 0).length ≤ 8 * dn.length := by
        intro dn
        induction dn with
        | nil => exact Nat.le_refl _
        | cons y r ih =>
          rw [List.flatMap_cons, List.length_append, List.length_cons]
          have := a y
          omega
      have := c dn
      omega
    refine ⟨by omega, ?_⟩
    rw [← List.map_append]
    exact q2 _ _ ⟨rfl, dn ++ [z], _, _, _, _, _, _, _, _, by rw [List.append_assoc]; exact hd, by rw [List.flatMap_append, List.flatMap_singleton]⟩
  rintro _ st' ⟨est, dn, v8, v9, v10, v12, v13, v14, v15, v16, hd, rfl⟩
  subst est
  refine ⟨trivial, ?_⟩
  rw [List.append_nil] at hd
  subst hd
  simp only [z10__law_right]
  (try simp only [BEq.rfl, ↓e_v0, ↓e_vs, ↓e_c, ↓e_op, ↓e_un, ↓e_test, ↓e_testK, ↓e_tru, ↓e_truL, ↓e_truT, ↓e_truB, ↓e_truI, ↓e_truN, ↓e_truS, ↓e_not, ↓e_and, ↓e_or, ↓e_andv, ↓e_orv, ↓e_notv, ↓e_andK, ↓e_orK, ↓e_notK, ↓e_if, ↓e_nil, ↓e_cons, ↓e_tup, ↓e_lst, ↓e_new, ↓e_call, ↓e_callK, ↓e_drop, ↓e_ret, ↓e_retN, ↓e_pass, ↓e_ifS, ↓e_g0, ↓e_gs, ↓e_gnil, ↓e_gcons, ↓e_gtup, ↓e_asg, ↓e_par, ↓e_parK, ↓e_par3, ↓e_par3K, ↓e_chain, ↓e_chK, ↓e_no, ↓e_some, ↓e_someK, ↓e_cut, ↓e_b, ↓e_iter, ↓e_iterL, ↓e_iterT, ↓e_iterS, ↓e_rng1, ↓e_rng1K, ↓e_rng2, ↓e_rng2K, ↓e_rng3, ↓e_rng3K, ↓e_enum, ↓e_enumL, ↓e_enumT, ↓e_zip, ↓e_zipL, ↓e_zipT, ↓e_zipM, ↓e_zipMK, ↓e_zipS, ↓e_zipSK, ↓e_for, ↓e_lc, ↓e_lcNew, ↓e_meth, ↓e_isL, ↓e_sub, ↓e_aug, ↓e_augK, ↓e_isi, ↓e_yes, ↓e_bits, ↓e_bitsK, ↓e_cLast, ↓e_cLink, ↓e_cK, ↓e_cNext, ↓e_testCh, ↓e_addI, ↓e_addB, ↓e_addS, ↓e_addT, ↓e_addL, ↓e_subI, ↓e_mulI, ↓e_mulT, ↓e_mulL, ↓e_divI, ↓e_modI, ↓e_powI, ↓e_negI, ↓e_iadd, ↓e_cmpI, ↓e_eq, ↓e_ne, ↓e_isn, ↓e_isnn, ↓e_isb, ↓e_ixL, ↓e_ixKL, ↓e_ixT, ↓e_cutL, ↓e_cutKL, ↓e_cutT, ↓e_lenL, ↓e_lenKL, ↓e_lenT, ↓e_abs, ↓e_intI, ↓e_intB, ↓e_max2, ↓e_min2, ↓e_listL, ↓e_listT, ↓e_listNL, ↓e_listNT, ↓e_tupL, ↓e_tupT, ↓e_sum1T, ↓e_sum1L, ↓e_max1T, ↓e_max1L, ↓e_drI, ↓e_drB, ↓e_drS, ↓e_drN, ↓e_drL, ↓e_drT, ↓e_seq, ↓e_back, ↓e_backL, ↓e_backT, ↓e_sortedL, ↓e_sortedNL, ↓e_divmod, ↓e_lr1, ↓e_lr1K, ↓e_lr2, ↓e_lr2K, ↓e_lr3, ↓e_lr3K, ↓e_revR1, ↓e_revR1K, ↓e_srtSet, ↓e_unlL, ↓e_inL, ↓e_inKL, ↓e_inT, ↓e_inFlat, ↓e_drK, ↓e_srtSetL, ↓e_lenSet, ↓e_lenSetL, ↓e_enumF, ↓e_enumFT, ↓e_reprL, ↓e_reprT, ↓e_reprI, ↓e_reprB, ↓e_reprN, ↓e_reprS, ↓e_strI, ↓e_isub, ↓e_strB, ↓e_addBI, ↓e_subBI, ↓e_subIB, ↓e_drG, ↓e_dnew, ↓e_dgetF, ↓e_dget1, ↓e_dget2, ↓e_dsetdS, ↓e_dgPut, ↓e_lenSetZ, ↓e_lenSetZL, e_kyI, e_kyS, Nat.reduceAdd, Nat.zero_add, List.length_cons, List.length_nil, List.length_map, Nat.reduceLeDiff, and_true, true_and, if_true, ite_true, decide_eq_true_eq, Bool.not_eq_true, Bool.false_eq_true, if_false, ite_false, ↓reduceIte, Int.reduceToNat, Int.reducePow, ne_eq, q_okI, q_okB, q_okN, q_okS, q_okL, q_okT, q_oks0, q_oks1, q_eqII, q_eqBB, q_eqSS, q_eqLL, q_eqTT, q_eqNN, q_eqNI, q_eqIN, q_eqs0, q_eqs1, Bool.true_and, Bool.and_true, beq_iff_eq, reduceCtorEq, wipeE, List.set_cons_zero, List.set_cons_succ, List.set_nil, Bool.not_true, Bool.not_false, List.getElem?_cons_zero, List.getElem?_cons_succ])
  refine ⟨mul2 _, h.toNat, rng_odd h1 (by omega), by omega, okDs_int _ _, ?_⟩
  rw [strip_rng h1, srt]
  refine ⟨okDs_int _ _, ?_⟩
  rw [eqDs_ints, decide_eq_true rfl]
  (try simp only [BEq.rfl, ↓e_v0, ↓e_vs, ↓e_c, ↓e_op, ↓e_un, ↓e_test, ↓e_testK, ↓e_tru, ↓e_truL, ↓e_truT, ↓e_truB, ↓e_truI, ↓e_truN, ↓e_truS, ↓e_not, ↓e_and, ↓e_or, ↓e_andv, ↓e_orv, ↓e_notv, ↓e_andK, ↓e_orK, ↓e_notK, ↓e_if, ↓e_nil, ↓e_cons, ↓e_tup, ↓e_lst, ↓e_new, ↓e_call, ↓e_callK, ↓e_drop, ↓e_ret, ↓e_retN, ↓e_pass, ↓e_ifS, ↓e_g0, ↓e_gs, ↓e_gnil, ↓e_gcons, ↓e_gtup, ↓e_asg, ↓e_par, ↓e_parK, ↓e_par3, ↓e_par3K, ↓e_chain, ↓e_chK, ↓e_no, ↓e_some, ↓e_someK, ↓e_cut, ↓e_b, ↓e_iter, ↓e_iterL, ↓e_iterT, ↓e_iterS, ↓e_rng1, ↓e_rng1K, ↓e_rng2, ↓e_rng2K, ↓e_rng3, ↓e_rng3K, ↓e_enum, ↓e_enumL, ↓e_enumT, ↓e_zip, ↓e_zipL, ↓e_zipT, ↓e_zipM, ↓e_zipMK, ↓e_zipS, ↓e_zipSK, ↓e_for, ↓e_lc, ↓e_lcNew, ↓e_meth, ↓e_isL, ↓e_sub, ↓e_aug, ↓e_augK, ↓e_isi, ↓e_yes, ↓e_bits, ↓e_bitsK, ↓e_cLast, ↓e_cLink, ↓e_cK, ↓e_cNext, ↓e_testCh, ↓e_addI, ↓e_addB, ↓e_addS, ↓e_addT, ↓e_addL, ↓e_subI, ↓e_mulI, ↓e_mulT, ↓e_mulL, ↓e_divI, ↓e_modI, ↓e_powI, ↓e_negI, ↓e_iadd, ↓e_cmpI, ↓e_eq, ↓e_ne, ↓e_isn, ↓e_isnn, ↓e_isb, ↓e_ixL, ↓e_ixKL, ↓e_ixT, ↓e_cutL, ↓e_cutKL, ↓e_cutT, ↓e_lenL, ↓e_lenKL, ↓e_lenT, ↓e_abs, ↓e_intI, ↓e_intB, ↓e_max2, ↓e_min2, ↓e_listL, ↓e_listT, ↓e_listNL, ↓e_listNT, ↓e_tupL, ↓e_tupT, ↓e_sum1T, ↓e_sum1L, ↓e_max1T, ↓e_max1L, ↓e_drI, ↓e_drB, ↓e_drS, ↓e_drN, ↓e_drL, ↓e_drT, ↓e_seq, ↓e_back, ↓e_backL, ↓e_backT, ↓e_sortedL, ↓e_sortedNL, ↓e_divmod, ↓e_lr1, ↓e_lr1K, ↓e_lr2, ↓e_lr2K, ↓e_lr3, ↓e_lr3K, ↓e_revR1, ↓e_revR1K, ↓e_srtSet, ↓e_unlL, ↓e_inL, ↓e_inKL, ↓e_inT, ↓e_inFlat, ↓e_drK, ↓e_srtSetL, ↓e_lenSet, ↓e_lenSetL, ↓e_enumF, ↓e_enumFT, ↓e_reprL, ↓e_reprT, ↓e_reprI, ↓e_reprB, ↓e_reprN, ↓e_reprS, ↓e_strI, ↓e_isub, ↓e_strB, ↓e_addBI, ↓e_subBI, ↓e_subIB, ↓e_drG, ↓e_dnew, ↓e_dgetF, ↓e_dget1, ↓e_dget2, ↓e_dsetdS, ↓e_dgPut, ↓e_lenSetZ, ↓e_lenSetZL, e_kyI, e_kyS, Nat.reduceAdd, Nat.zero_add, List.length_cons, List.length_nil, List.length_map, Nat.reduceLeDiff, and_true, true_and, if_true, ite_true, decide_eq_true_eq, Bool.not_eq_true, Bool.false_eq_true, if_false, ite_false, ↓reduceIte, Int.reduceToNat, Int.reducePow, ne_eq, q_okI, q_okB, q_okN, q_okS, q_okL, q_okT, q_oks0, q_oks1, q_eqII, q_eqBB, q_eqSS, q_eqLL, q_eqTT, q_eqNN, q_eqNI, q_eqIN, q_eqs0, q_eqs1, Bool.true_and, Bool.and_true, beq_iff_eq, reduceCtorEq, wipeE, List.set_cons_zero, List.set_cons_succ, List.set_nil, Bool.not_true, Bool.not_false, List.getElem?_cons_zero, List.getElem?_cons_succ])
  simp only [z12__law_right]
  (try simp only [BEq.rfl, ↓e_v0, ↓e_vs, ↓e_c, ↓e_op, ↓e_un, ↓e_test, ↓e_testK, ↓e_tru, ↓e_truL, ↓e_truT, ↓e_truB, ↓e_truI, ↓e_truN, ↓e_truS, ↓e_not, ↓e_and, ↓e_or, ↓e_andv, ↓e_orv, ↓e_notv, ↓e_andK, ↓e_orK, ↓e_notK, ↓e_if, ↓e_nil, ↓e_cons, ↓e_tup, ↓e_lst, ↓e_new, ↓e_call, ↓e_callK, ↓e_drop, ↓e_ret, ↓e_retN, ↓e_pass, ↓e_ifS, ↓e_g0, ↓e_gs, ↓e_gnil, ↓e_gcons, ↓e_gtup, ↓e_asg, ↓e_par, ↓e_parK, ↓e_par3, ↓e_par3K, ↓e_chain, ↓e_chK, ↓e_no, ↓e_some, ↓e_someK, ↓e_cut, ↓e_b, ↓e_iter, ↓e_iterL, ↓e_iterT, ↓e_iterS, ↓e_rng1, ↓e_rng1K, ↓e_rng2, ↓e_rng2K, ↓e_rng3, ↓e_rng3K, ↓e_enum, ↓e_enumL, ↓e_enumT, ↓e_zip, ↓e_zipL, ↓e_zipT, ↓e_zipM, ↓e_zipMK, ↓e_zipS, ↓e_zipSK, ↓e_for, ↓e_lc, ↓e_lcNew, ↓e_meth, ↓e_isL, ↓e_sub, ↓e_aug, ↓e_augK, ↓e_isi, ↓e_yes, ↓e_bits, ↓e_bitsK, ↓e_cLast, ↓e_cLink, ↓e_cK, ↓e_cNext, ↓e_testCh, ↓e_addI, ↓e_addB, ↓e_addS, ↓e_addT, ↓e_addL, ↓e_subI, ↓e_mulI, ↓e_mulT, ↓e_mulL, ↓e_divI, ↓e_modI, ↓e_powI, ↓e_negI, ↓e_iadd, ↓e_cmpI, ↓e_eq, ↓e_ne, ↓e_isn, ↓e_isnn, ↓e_isb, ↓e_ixL, ↓e_ixKL, ↓e_ixT, ↓e_cutL, ↓e_cutKL, ↓e_cutT, ↓e_lenL, ↓e_lenKL, ↓e_lenT, ↓e_abs, ↓e_intI, ↓e_intB, ↓e_max2, ↓e_min2, ↓e_listL, ↓e_listT, ↓e_listNL, ↓e_listNT, ↓e_tupL, ↓e_tupT, ↓e_sum1T, ↓e_sum1L, ↓e_max1T, ↓e_max1L, ↓e_drI, ↓e_drB, ↓e_drS, ↓e_drN, ↓e_drL, ↓e_drT, ↓e_seq, ↓e_back, ↓e_backL, ↓e_backT, ↓e_sortedL, ↓e_sortedNL, ↓e_divmod, ↓e_lr1, ↓e_lr1K, ↓e_lr2, ↓e_lr2K, ↓e_lr3, ↓e_lr3K, ↓e_revR1, ↓e_revR1K, ↓e_srtSet, ↓e_unlL, ↓e_inL, ↓e_inKL, ↓e_inT, ↓e_inFlat, ↓e_drK, ↓e_srtSetL, ↓e_lenSet, ↓e_lenSetL, ↓e_enumF, ↓e_enumFT, ↓e_reprL, ↓e_reprT, ↓e_reprI, ↓e_reprB, ↓e_reprN, ↓e_reprS, ↓e_strI, ↓e_isub, ↓e_strB, ↓e_addBI, ↓e_subBI, ↓e_subIB, ↓e_drG, ↓e_dnew, ↓e_dgetF, ↓e_dget1, ↓e_dget2, ↓e_dsetdS, ↓e_dgPut, ↓e_lenSetZ, ↓e_lenSetZL, e_kyI, e_kyS, Nat.reduceAdd, Nat.zero_add, List.length_cons, List.length_nil, List.length_map, Nat.reduceLeDiff, and_true, true_and, if_true, ite_true, decide_eq_true_eq, Bool.not_eq_true, Bool.false_eq_true, if_false, ite_false, ↓reduceIte, Int.reduceToNat, Int.reducePow, ne_eq, q_okI, q_okB, q_okN, q_okS, q_okL, q_okT, q_oks0, q_oks1, q_eqII, q_eqBB, q_eqSS, q_eqLL, q_eqTT, q_eqNN, q_eqNI, q_eqIN, q_eqs0, q_eqs1, Bool.true_and, Bool.and_true, beq_iff_eq, reduceCtorEq, wipeE, List.set_cons_zero, List.set_cons_succ, List.set_nil, Bool.not_true, Bool.not_false, List.getElem?_cons_zero, List.getElem?_cons_succ])
  rw [show (1 : Int) = ((1 : Nat) : Int) from rfl, cutD_map, cutD_drop]
  have zip2 : ∀ xs ys : List Int, zipD (xs.map D.int) (ys.map D.int) = (xs.zip ys).map fun p => D.tup [.int p.1, .int p.2] := by
    intro xs
    induction xs with
    | nil => intro ys; rfl
    | cons x xs ih =>
      intro ys
      cases ys with
      | nil => rfl
      | cons y ys => simp only [List.map_cons, zipD, List.zip_cons_cons, ih]
  rw [zip2]
  refine fun _ => ⟨by rw [List.length_map, List.length_zip]; omega, ?_⟩
  refine lc_map (fun p : Int × Int => D.tup [.int p.1, .int p.2]) (fun _ => D.bl false) _ _ (by exact trivial) _ (fun p hp kd k => ?_) ?_
  · simp only [e3__law_right]
    obtain ⟨n1, n2⟩ := near p hp
    (try simp only [BEq.rfl, ↓e_v0, ↓e_vs, ↓e_c, ↓e_op, ↓e_un, ↓e_test, ↓e_testK, ↓e_tru, ↓e_truL, ↓e_truT, ↓e_truB, ↓e_truI, ↓e_truN, ↓e_truS, ↓e_not, ↓e_and, ↓e_or, ↓e_andv, ↓e_orv, ↓e_notv, ↓e_andK, ↓e_orK, ↓e_notK, ↓e_if, ↓e_nil, ↓e_cons, ↓e_tup, ↓e_lst, ↓e_new, ↓e_call, ↓e_callK, ↓e_drop, ↓e_ret, ↓e_retN, ↓e_pass, ↓e_ifS, ↓e_g0, ↓e_gs, ↓e_gnil, ↓e_gcons, ↓e_gtup, ↓e_asg, ↓e_par, ↓e_parK, ↓e_par3, ↓e_par3K, ↓e_chain, ↓e_chK, ↓e_no, ↓e_some, ↓e_someK, ↓e_cut, ↓e_b, ↓e_iter, ↓e_iterL, ↓e_iterT, ↓e_iterS, ↓e_rng1, ↓e_rng1K, ↓e_rng2, ↓e_rng2K, ↓e_rng3, ↓e_rng3K, ↓e_enum, ↓e_enumL, ↓e_enumT, ↓e_zip, ↓e_zipL, ↓e_zipT, ↓e_zipM, ↓e_zipMK, ↓e_zipS, ↓e_zipSK, ↓e_for, ↓e_lc, ↓e_lcNew, ↓e_meth, ↓e_isL, ↓e_sub, ↓e_aug, ↓e_augK, ↓e_isi, ↓e_yes, ↓e_bits, ↓e_bitsK, ↓e_cLast, ↓e_cLink, ↓e_cK, ↓e_cNext, ↓e_testCh, ↓e_addI, ↓e_addB, ↓e_addS, ↓e_addT, ↓e_addL, ↓e_subI, ↓e_mulI, ↓e_mulT, ↓e_mulL, ↓e_divI, ↓e_modI, ↓e_powI, ↓e_negI, ↓e_iadd, ↓e_cmpI, ↓e_eq, ↓e_ne, ↓e_isn, ↓e_isnn, ↓e_isb, ↓e_ixL, ↓e_ixKL, ↓e_ixT, ↓e_cutL, ↓e_cutKL, ↓e_cutT, ↓e_lenL, ↓e_lenKL, ↓e_lenT, ↓e_abs, ↓e_intI, ↓e_intB, ↓e_max2, ↓e_min2, ↓e_listL, ↓e_listT, ↓e_listNL, ↓e_listNT, ↓e_tupL, ↓e_tupT, ↓e_sum1T, ↓e_sum1L, ↓e_max1T, ↓e_max1L, ↓e_drI, ↓e_drB, ↓e_drS, ↓e_drN, ↓e_drL, ↓e_drT, ↓e_seq, ↓e_back, ↓e_backL, ↓e_backT, ↓e_sortedL, ↓e_sortedNL, ↓e_divmod, ↓e_lr1, ↓e_lr1K, ↓e_lr2, ↓e_lr2K, ↓e_lr3, ↓e_lr3K, ↓e_revR1, ↓e_revR1K, ↓e_srtSet, ↓e_unlL, ↓e_inL, ↓e_inKL, ↓e_inT, ↓e_inFlat, ↓e_drK, ↓e_srtSetL, ↓e_lenSet, ↓e_lenSetL, ↓e_enumF, ↓e_enumFT, ↓e_reprL, ↓e_reprT, ↓e_reprI, ↓e_reprB, ↓e_reprN, ↓e_reprS, ↓e_strI, ↓e_isub, ↓e_strB, ↓e_addBI, ↓e_subBI, ↓e_subIB, ↓e_drG, ↓e_dnew, ↓e_dgetF, ↓e_dget1, ↓e_dget2, ↓e_dsetdS, ↓e_dgPut, ↓e_lenSetZ, ↓e_lenSetZL, e_kyI, e_kyS, Nat.reduceAdd, Nat.zero_add, List.length_cons, List.length_nil, List.length_map, Nat.reduceLeDiff, and_true, true_and, if_true, ite_true, decide_eq_true_eq, Bool.not_eq_true, Bool.false_eq_true, if_false, ite_false, ↓reduceIte, Int.reduceToNat, Int.reducePow, ne_eq, q_okI, q_okB, q_okN, q_okS, q_okL, q_okT, q_oks0, q_oks1, q_eqII, q_eqBB, q_eqSS, q_eqLL, q_eqTT, q_eqNN, q_eqNI, q_eqIN, q_eqs0, q_eqs1, Bool.true_and, Bool.and_true, beq_iff_eq, reduceCtorEq, wipeE, List.set_cons_zero, List.set_cons_succ, List.set_nil, Bool.not_true, Bool.not_false, List.getElem?_cons_zero, List.getElem?_cons_succ])
    rw [decide_eq_false (by split <;> omega)]
    exact k
  rw [List.nil_append, any_false]
  (try simp only [BEq.rfl, ↓e_v0, ↓e_vs, ↓e_c, ↓e_op, ↓e_un, ↓e_test, ↓e_testK, ↓e_tru, ↓e_truL, ↓e_truT, ↓e_truB, ↓e_truI, ↓e_truN, ↓e_truS, ↓e_not, ↓e_and, ↓e_or, ↓e_andv, ↓e_orv, ↓e_notv, ↓e_andK, ↓e_orK, ↓e_notK, ↓e_if, ↓e_nil, ↓e_cons, ↓e_tup, ↓e_lst, ↓e_new, ↓e_call, ↓e_callK, ↓e_drop, ↓e_ret, ↓e_retN, ↓e_pass, ↓e_ifS, ↓e_g0, ↓e_gs, ↓e_gnil, ↓e_gcons, ↓e_gtup, ↓e_asg, ↓e_par, ↓e_parK, ↓e_par3, ↓e_par3K, ↓e_chain, ↓e_chK, ↓e_no, ↓e_some, ↓e_someK, ↓e_cut, ↓e_b, ↓e_iter, ↓e_iterL, ↓e_iterT, ↓e_iterS, ↓e_rng1, ↓e_rng1K, ↓e_rng2, ↓e_rng2K, ↓e_rng3, ↓e_rng3K, ↓e_enum, ↓e_enumL, ↓e_enumT, ↓e_zip, ↓e_zipL, ↓e_zipT, ↓e_zipM, ↓e_zipMK, ↓e_zipS, ↓e_zipSK, ↓e_for, ↓e_lc, ↓e_lcNew, ↓e_meth, ↓e_isL, ↓e_sub, ↓e_aug, ↓e_augK, ↓e_isi, ↓e_yes, ↓e_bits, ↓e_bitsK, ↓e_cLast, ↓e_cLink, ↓e_cK, ↓e_cNext, ↓e_testCh, ↓e_addI, ↓e_addB, ↓e_addS, ↓e_addT, ↓e_addL, ↓e_subI, ↓e_mulI, ↓e_mulT, ↓e_mulL, ↓e_divI, ↓e_modI, ↓e_powI, ↓e_negI, ↓e_iadd, ↓e_cmpI, ↓e_eq, ↓e_ne, ↓e_isn, ↓e_isnn, ↓e_isb, ↓e_ixL, ↓e_ixKL, ↓e_ixT, ↓e_cutL, ↓e_cutKL, ↓e_cutT, ↓e_lenL, ↓e_lenKL, ↓e_lenT, ↓e_abs, ↓e_intI, ↓e_intB, ↓e_max2, ↓e_min2, ↓e_listL, ↓e_listT, ↓e_listNL, ↓e_listNT, ↓e_tupL, ↓e_tupT, ↓e_sum1T, ↓e_sum1L, ↓e_max1T, ↓e_max1L, ↓e_drI, ↓e_drB, ↓e_drS, ↓e_drN, ↓e_drL, ↓e_drT, ↓e_seq, ↓e_back, ↓e_backL, ↓e_backT, ↓e_sortedL, ↓e_sortedNL, ↓e_divmod, ↓e_lr1, ↓e_lr1K, ↓e_lr2, ↓e_lr2K, ↓e_lr3, ↓e_lr3K, ↓e_revR1, ↓e_revR1K, ↓e_srtSet, ↓e_unlL, ↓e_inL, ↓e_inKL, ↓e_inT, ↓e_inFlat, ↓e_drK, ↓e_srtSetL, ↓e_lenSet, ↓e_lenSetL, ↓e_enumF, ↓e_enumFT, ↓e_reprL, ↓e_reprT, ↓e_reprI, ↓e_reprB, ↓e_reprN, ↓e_reprS, ↓e_strI, ↓e_isub, ↓e_strB, ↓e_addBI, ↓e_subBI, ↓e_subIB, ↓e_drG, ↓e_dnew, ↓e_dgetF, ↓e_dget1, ↓e_dget2, ↓e_dsetdS, ↓e_dgPut, ↓e_lenSetZ, ↓e_lenSetZL, e_kyI, e_kyS, Nat.reduceAdd, Nat.zero_add, List.length_cons, List.length_nil, List.length_map, Nat.reduceLeDiff, and_true, true_and, if_true, ite_true, decide_eq_true_eq, Bool.not_eq_true, Bool.false_eq_true, if_false, ite_false, ↓reduceIte, Int.reduceToNat, Int.reducePow, ne_eq, q_okI, q_okB, q_okN, q_okS, q_okL, q_okT, q_oks0, q_oks1, q_eqII, q_eqBB, q_eqSS, q_eqLL, q_eqTT, q_eqNN, q_eqNI, q_eqIN, q_eqs0, q_eqs1, Bool.true_and, Bool.and_true, beq_iff_eq, reduceCtorEq, wipeE, List.set_cons_zero, List.set_cons_succ, List.set_nil, Bool.not_true, Bool.not_false, List.getElem?_cons_zero, List.getElem?_cons_succ])
  simp only [z14__law_right]
  (try simp only [BEq.rfl, ↓e_v0, ↓e_vs, ↓e_c, ↓e_op, ↓e_un, ↓e_test, ↓e_testK, ↓e_tru, ↓e_truL, ↓e_truT, ↓e_truB, ↓e_truI, ↓e_truN, ↓e_truS, ↓e_not, ↓e_and, ↓e_or, ↓e_andv, ↓e_orv, ↓e_notv, ↓e_andK, ↓e_orK, ↓e_notK, ↓e_if, ↓e_nil, ↓e_cons, ↓e_tup, ↓e_lst, ↓e_new, ↓e_call, ↓e_callK, ↓e_drop, ↓e_ret, ↓e_retN, ↓e_pass, ↓e_ifS, ↓e_g0, ↓e_gs, ↓e_gnil, ↓e_gcons, ↓e_gtup, ↓e_asg, ↓e_par, ↓e_parK, ↓e_par3, ↓e_par3K, ↓e_chain, ↓e_chK, ↓e_no, ↓e_some, ↓e_someK, ↓e_cut, ↓e_b, ↓e_iter, ↓e_iterL, ↓e_iterT, ↓e_iterS, ↓e_rng1, ↓e_rng1K, ↓e_rng2, ↓e_rng2K, ↓e_rng3, ↓e_rng3K, ↓e_enum, ↓e_enumL, ↓e_enumT, ↓e_zip, ↓e_zipL, ↓e_zipT, ↓e_zipM, ↓e_zipMK, ↓e_zipS, ↓e_zipSK, ↓e_for, ↓e_lc, ↓e_lcNew, ↓e_meth, ↓e_isL, ↓e_sub, ↓e_aug, ↓e_augK, ↓e_isi, ↓e_yes, ↓e_bits, ↓e_bitsK, ↓e_cLast, ↓e_cLink, ↓e_cK, ↓e_cNext, ↓e_testCh, ↓e_addI, ↓e_addB, ↓e_addS, ↓e_addT, ↓e_addL, ↓e_subI, ↓e_mulI, ↓e_mulT, ↓e_mulL, ↓e_divI, ↓e_modI, ↓e_powI, ↓e_negI, ↓e_iadd, ↓e_cmpI, ↓e_eq, ↓e_ne, ↓e_isn, ↓e_isnn, ↓e_isb, ↓e_ixL, ↓e_ixKL, ↓e_ixT, ↓e_cutL, ↓e_cutKL, ↓e_cutT, ↓e_lenL, ↓e_lenKL, ↓e_lenT, ↓e_abs, ↓e_intI, ↓e_intB, ↓e_max2, ↓e_min2, ↓e_listL, ↓e_listT, ↓e_listNL, ↓e_listNT, ↓e_tupL, ↓e_tupT, ↓e_sum1T, ↓e_sum1L, ↓e_max1T, ↓e_max1L, ↓e_drI, ↓e_drB, ↓e_drS, ↓e_drN, ↓e_drL, ↓e_drT, ↓e_seq, ↓e_back, ↓e_backL, ↓e_backT, ↓e_sortedL, ↓e_sortedNL, ↓e_divmod, ↓e_lr1, ↓e_lr1K, ↓e_lr2, ↓e_lr2K, ↓e_lr3, ↓e_lr3K, ↓e_revR1, ↓e_revR1K, ↓e_srtSet, ↓e_unlL, ↓e_inL, ↓e_inKL, ↓e_inT, ↓e_inFlat, ↓e_drK, ↓e_srtSetL, ↓e_lenSet, ↓e_lenSetL, ↓e_enumF, ↓e_enumFT, ↓e_reprL, ↓e_reprT, ↓e_reprI, ↓e_reprB, ↓e_reprN, ↓e_reprS, ↓e_strI, ↓e_isub, ↓e_strB, ↓e_addBI, ↓e_subBI, ↓e_subIB, ↓e_drG, ↓e_dnew, ↓e_dgetF, ↓e_dget1, ↓e_dget2, ↓e_dsetdS, ↓e_dgPut, ↓e_lenSetZ, ↓e_lenSetZL, e_kyI, e_kyS, Nat.reduceAdd, Nat.zero_add, List.length_cons, List.length_nil, List.length_map, Nat.reduceLeDiff, and_true, true_and, if_true, ite_true, decide_eq_true_eq, Bool.not_eq_true, Bool.false_eq_true, if_false, ite_false, ↓reduceIte, Int.reduceToNat, Int.reducePow, ne_eq, q_okI, q_okB, q_okN, q_okS, q_okL, q_okT, q_oks0, q_oks1, q_eqII, q_eqBB, q_eqSS, q_eqLL, q_eqTT, q_eqNN, q_eqNI, q_eqIN, q_eqs0, q_eqs1, Bool.true_and, Bool.and_true, beq_iff_eq, reduceCtorEq, wipeE, List.set_cons_zero, List.set_cons_succ, List.set_nil, Bool.not_true, Bool.not_false, List.getElem?_cons_zero, List.getElem?_cons_succ])
  rw [← List.map_append]
  refine ⟨by omega, row ++ more, h, rfl, h1, by omega, ?_⟩
  have eL : stripL (row ++ more) h = ((oddsR (1, 2 * h - 1)).map (spotI (row ++ more))).map pairD := rfl
  have eL2 : ((oddsR (1, 2 * h - 1)).map (spotI (row ++ more))).map (·.1) = lastsL (row ++ more) h := by unfold lastsL; rw [List.map_map]; rfl
  have LL2 := lasts_len (row ++ more) h1
  have lps : ((oddsR (1, 2 * h - 1)).map (spotI (row ++ more))).length ≤ 8 := by rw [← List.length_map (f := fun p : Int × Bool => p.1), eL2, LL2]; omega
  have LS2 := lasts_set (row ++ more) h1
  rw [foldsR_app, hR] at LS2
  simp only [stripD, eL]
  (try simp only [BEq.rfl, ↓e_v0, ↓e_vs, ↓e_c, ↓e_op, ↓e_un, ↓e_test, ↓e_testK, ↓e_tru, ↓e_truL, ↓e_truT, ↓e_truB, ↓e_truI, ↓e_truN, ↓e_truS, ↓e_not, ↓e_and, ↓e_or, ↓e_andv, ↓e_orv, ↓e_notv, ↓e_andK, ↓e_orK, ↓e_notK, ↓e_if, ↓e_nil, ↓e_cons, ↓e_tup, ↓e_lst, ↓e_new, ↓e_call, ↓e_callK, ↓e_drop, ↓e_ret, ↓e_retN, ↓e_pass, ↓e_ifS, ↓e_g0, ↓e_gs, ↓e_gnil, ↓e_gcons, ↓e_gtup, ↓e_asg, ↓e_par, ↓e_parK, ↓e_par3, ↓e_par3K, ↓e_chain, ↓e_chK, ↓e_no, ↓e_some, ↓e_someK, ↓e_cut, ↓e_b, ↓e_iter, ↓e_iterL, ↓e_iterT, ↓e_iterS, ↓e_rng1, ↓e_rng1K, ↓e_rng2, ↓e_rng2K, ↓e_rng3, ↓e_rng3K, ↓e_enum, ↓e_enumL, ↓e_enumT, ↓e_zip, ↓e_zipL, ↓e_zipT, ↓e_zipM, ↓e_zipMK, ↓e_zipS, ↓e_zipSK, ↓e_for, ↓e_lc, ↓e_lcNew, ↓e_meth, ↓e_isL, ↓e_sub, ↓e_aug, ↓e_augK, ↓e_isi, ↓e_yes, ↓e_bits, ↓e_bitsK, ↓e_cLast, ↓e_cLink, ↓e_cK, ↓e_cNext, ↓e_testCh, ↓e_addI, ↓e_addB, ↓e_addS, ↓e_addT, ↓e_addL, ↓e_subI, ↓e_mulI, ↓e_mulT, ↓e_mulL, ↓e_divI, ↓e_modI, ↓e_powI, ↓e_negI, ↓e_iadd, ↓e_cmpI, ↓e_eq, ↓e_ne, ↓e_isn, ↓e_isnn, ↓e_isb, ↓e_ixL, ↓e_ixKL, ↓e_ixT, ↓e_cutL, ↓e_cutKL, ↓e_cutT, ↓e_lenL, ↓e_lenKL, ↓e_lenT, ↓e_abs, ↓e_intI, ↓e_intB, ↓e_max2, ↓e_min2, ↓e_listL, ↓e_listT, ↓e_listNL, ↓e_listNT, ↓e_tupL, ↓e_tupT, ↓e_sum1T, ↓e_sum1L, ↓e_max1T, ↓e_max1L, ↓e_drI, ↓e_drB, ↓e_drS, ↓e_drN, ↓e_drL, ↓e_drT, ↓e_seq, ↓e_back, ↓e_backL, ↓e_backT, ↓e_sortedL, ↓e_sortedNL, ↓e_divmod, ↓e_lr1, ↓e_lr1K, ↓e_lr2, ↓e_lr2K, ↓e_lr3, ↓e_lr3K, ↓e_revR1, ↓e_revR1K, ↓e_srtSet, ↓e_unlL, ↓e_inL, ↓e_inKL, ↓e_inT, ↓e_inFlat, ↓e_drK, ↓e_srtSetL, ↓e_lenSet, ↓e_lenSetL, ↓e_enumF, ↓e_enumFT, ↓e_reprL, ↓e_reprT, ↓e_reprI, ↓e_reprB, ↓e_reprN, ↓e_reprS, ↓e_strI, ↓e_isub, ↓e_strB, ↓e_addBI, ↓e_subBI, ↓e_subIB, ↓e_drG, ↓e_dnew, ↓e_dgetF, ↓e_dget1, ↓e_dget2, ↓e_dsetdS, ↓e_dgPut, ↓e_lenSetZ, ↓e_lenSetZL, e_kyI, e_kyS, Nat.reduceAdd, Nat.zero_add, List.length_cons, List.length_nil, List.length_map, Nat.reduceLeDiff, and_true, true_and, if_true, ite_true, decide_eq_true_eq, Bool.not_eq_true, Bool.false_eq_true, if_false, ite_false, ↓reduceIte, Int.reduceToNat, Int.reducePow, ne_eq, q_okI, q_okB, q_okN, q_okS, q_okL, q_okT, q_oks0, q_oks1, q_eqII, q_eqBB, q_eqSS, q_eqLL, q_eqTT, q_eqNN, q_eqNI, q_eqIN, q_eqs0, q_eqs1, Bool.true_and, Bool.and_true, beq_iff_eq, reduceCtorEq, wipeE, List.set_cons_zero, List.set_cons_succ, List.set_nil, Bool.not_true, Bool.not_false, List.getElem?_cons_zero, List.getElem?_cons_succ])
  refine fun _ => ⟨by omega, ?_⟩
  refine lc_map pairD (fun p => D.int p.1) _ _ (by exact trivial) _ (fun p hp kd k => ?_) ?_
  · simp only [e4__law_right, pairD]
    (try simp only [BEq.rfl, ↓e_v0, ↓e_vs, ↓e_c, ↓e_op, ↓e_un, ↓e_test, ↓e_testK, ↓e_tru, ↓e_truL, ↓e_truT, ↓e_truB, ↓e_truI, ↓e_truN, ↓e_truS, ↓e_not, ↓e_and, ↓e_or, ↓e_andv, ↓e_orv, ↓e_notv, ↓e_andK, ↓e_orK, ↓e_notK, ↓e_if, ↓e_nil, ↓e_cons, ↓e_tup, ↓e_lst, ↓e_new, ↓e_call, ↓e_callK, ↓e_drop, ↓e_ret, ↓e_retN, ↓e_pass, ↓e_ifS, ↓e_g0, ↓e_gs, ↓e_gnil, ↓e_gcons, ↓e_gtup, ↓e_asg, ↓e_par, ↓e_parK, ↓e_par3, ↓e_par3K, ↓e_chain, ↓e_chK, ↓e_no, ↓e_some, ↓e_someK, ↓e_cut, ↓e_b, ↓e_iter, ↓e_iterL, ↓e_iterT, ↓e_iterS, ↓e_rng1, ↓e_rng1K, ↓e_rng2, ↓e_rng2K, ↓e_rng3, ↓e_rng3K, ↓e_enum, ↓e_enumL, ↓e_enumT, ↓e_zip, ↓e_zipL, ↓e_zipT, ↓e_zipM, ↓e_zipMK, ↓e_zipS, ↓e_zipSK, ↓e_for, ↓e_lc, ↓e_lcNew, ↓e_forN, ↓e_forC, ↓e_lcN, ↓e_lcC, ↓e_srcN, ↓e_srcC, ↓e_meth, ↓e_isL, ↓e_sub, ↓e_aug, ↓e_augK, ↓e_isi, ↓e_yes, ↓e_bits, ↓e_bitsK, ↓e_cLast, ↓e_cLink, ↓e_cK, ↓e_cNext, ↓e_testCh, ↓e_addI, ↓e_addB, ↓e_addS, ↓e_addT, ↓e_addL, ↓e_subI, ↓e_mulI, ↓e_mulT, ↓e_mulL, ↓e_divI, ↓e_modI, ↓e_powI, ↓e_negI, ↓e_iadd, ↓e_cmpI, ↓e_eq, ↓e_ne, ↓e_isn, ↓e_isnn, ↓e_isb, ↓e_ixL, ↓e_ixKL, ↓e_ixT, ↓e_cutL, ↓e_cutKL, ↓e_cutT, ↓e_lenL, ↓e_lenKL, ↓e_lenT, ↓e_abs, ↓e_intI, ↓e_intB, ↓e_max2, ↓e_min2, ↓e_listL, ↓e_listT, ↓e_listNL, ↓e_listNT, ↓e_tupL, ↓e_tupT, ↓e_sum1T, ↓e_sum1L, ↓e_max1T, ↓e_max1L, ↓e_drI, ↓e_drB, ↓e_drS, ↓e_drN, ↓e_drL, ↓e_drT, ↓e_seq, ↓e_back, ↓e_backL, ↓e_backT, ↓e_sortedL, ↓e_sortedNL, ↓e_divmod, ↓e_lr1, ↓e_lr1K, ↓e_lr2, ↓e_lr2K, ↓e_lr3, ↓e_lr3K, ↓e_revR1, ↓e_revR1K, ↓e_srtSet, ↓e_unlL, ↓e_inL, ↓e_inKL, ↓e_inT, ↓e_inFlat, ↓e_drK, ↓e_srtSetL, ↓e_lenSet, ↓e_lenSetL, ↓e_enumF, ↓e_enumFT, ↓e_reprL, ↓e_reprT, ↓e_reprI, ↓e_reprB, ↓e_reprN, ↓e_reprS, ↓e_strI, ↓e_isub, ↓e_strB, ↓e_addBI, ↓e_subBI, ↓e_subIB, ↓e_drG, ↓e_dnew, ↓e_dgetF, ↓e_dget1, ↓e_dget2, ↓e_dsetdS, ↓e_dgPut, ↓e_lenSetZ, ↓e_lenSetZL, e_kyI, e_kyS, Nat.reduceAdd, Nat.zero_add, List.length_cons, List.length_nil, List.length_map, Nat.reduceLeDiff, and_true, true_and, if_true, ite_true, decide_eq_true_eq, Bool.not_eq_true, Bool.false_eq_true, if_false, ite_false, ↓reduceIte, Int.reduceToNat, Int.reducePow, ne_eq, q_okI, q_okB, q_okN, q_okS, q_okL, q_okT, q_oks0, q_oks1, q_eqII, q_eqBB, q_eqSS, q_eqLL, q_eqTT, q_eqNN, q_eqNI, q_eqIN, q_eqs0, q_eqs1, Bool.true_and, Bool.and_true, beq_iff_eq, reduceCtorEq, wipeE, List.set_cons_zero, List.set_cons_succ, List.set_nil, Bool.not_true, Bool.not_false, List.getElem?_cons_zero, List.getElem?_cons_succ])
    exact k
  rw [List.nil_append, show ((oddsR (1, 2 * h - 1)).map (spotI (row ++ more))).map (fun p => D.int p.1) = (((oddsR (1, 2 * h - 1)).map (spotI (row ++ more))).map (·.1)).map D.int by rw [List.map_map (f := fun p : Int × Bool => p.1)]; rfl, eL2]
  clear eL eL2 lps
  generalize lastsL (row ++ more) h = L2 at LL2 LS2 later
  simp only [z15__law_right]
  (try simp only [BEq.rfl, ↓e_v0, ↓e_vs, ↓e_c, ↓e_op, ↓e_un, ↓e_test, ↓e_testK, ↓e_tru, ↓e_truL, ↓e_truT, ↓e_truB, ↓e_truI, ↓e_truN, ↓e_truS, ↓e_not, ↓e_and, ↓e_or, ↓e_andv, ↓e_orv, ↓e_notv, ↓e_andK, ↓e_orK, ↓e_notK, ↓e_if, ↓e_nil, ↓e_cons, ↓e_tup, ↓e_lst, ↓e_new, ↓e_call, ↓e_callK, ↓e_drop, ↓e_ret, ↓e_retN, ↓e_pass, ↓e_ifS, ↓e_g0, ↓e_gs, ↓e_gnil, ↓e_gcons, ↓e_gtup, ↓e_asg, ↓e_par, ↓e_parK, ↓e_par3, ↓e_par3K, ↓e_chain, ↓e_chK, ↓e_no, ↓e_some, ↓e_someK, ↓e_cut, ↓e_b, ↓e_iter, ↓e_iterL, ↓e_iterT, ↓e_iterS, ↓e_rng1, ↓e_rng1K, ↓e_rng2, ↓e_rng2K, ↓e_rng3, ↓e_rng3K, ↓e_enum, ↓e_enumL, ↓e_enumT, ↓e_zip, ↓e_zipL, ↓e_zipT, ↓e_zipM, ↓e_zipMK, ↓e_zipS, ↓e_zipSK, ↓e_for, ↓e_lc, ↓e_lcNew, ↓e_meth, ↓e_isL, ↓e_sub, ↓e_aug, ↓e_augK, ↓e_isi, ↓e_yes, ↓e_bits, ↓e_bitsK, ↓e_cLast, ↓e_cLink, ↓e_cK, ↓e_cNext, ↓e_testCh, ↓e_addI, ↓e_addB, ↓e_addS, ↓e_addT, ↓e_addL, ↓e_subI, ↓e_mulI, ↓e_mulT, ↓e_mulL, ↓e_divI, ↓e_modI, ↓e_powI, ↓e_negI, ↓e_iadd, ↓e_cmpI, ↓e_eq, ↓e_ne, ↓e_isn, ↓e_isnn, ↓e_isb, ↓e_ixL, ↓e_ixKL, ↓e_ixT, ↓e_cutL, ↓e_cutKL, ↓e_cutT, ↓e_lenL, ↓e_lenKL, ↓e_lenT, ↓e_abs, ↓e_intI, ↓e_intB, ↓e_max2, ↓e_min2, ↓e_listL, ↓e_listT, ↓e_listNL, ↓e_listNT, ↓e_tupL, ↓e_tupT, ↓e_sum1T, ↓e_sum1L, ↓e_max1T, ↓e_max1L, ↓e_drI, ↓e_drB, ↓e_drS, ↓e_drN, ↓e_drL, ↓e_drT, ↓e_seq, ↓e_back, ↓e_backL, ↓e_backT, ↓e_sortedL, ↓e_sortedNL, ↓e_divmod, ↓e_lr1, ↓e_lr1K, ↓e_lr2, ↓e_lr2K, ↓e_lr3, ↓e_lr3K, ↓e_revR1, ↓e_revR1K, ↓e_srtSet, ↓e_unlL, ↓e_inL, ↓e_inKL, ↓e_inT, ↓e_inFlat, ↓e_drK, ↓e_srtSetL, ↓e_lenSet, ↓e_lenSetL, ↓e_enumF, ↓e_enumFT, ↓e_reprL, ↓e_reprT, ↓e_reprI, ↓e_reprB, ↓e_reprN, ↓e_reprS, ↓e_strI, ↓e_isub, ↓e_strB, ↓e_addBI, ↓e_subBI, ↓e_subIB, ↓e_drG, ↓e_dnew, ↓e_dgetF, ↓e_dget1, ↓e_dget2, ↓e_dsetdS, ↓e_dgPut, ↓e_lenSetZ, ↓e_lenSetZL, e_kyI, e_kyS, Nat.reduceAdd, Nat.zero_add, List.length_cons, List.length_nil, List.length_map, Nat.reduceLeDiff, and_true, true_and, if_true, ite_true, decide_eq_true_eq, Bool.not_eq_true, Bool.false_eq_true, if_false, ite_false, ↓reduceIte, Int.reduceToNat, Int.reducePow, ne_eq, q_okI, q_okB, q_okN, q_okS, q_okL, q_okT, q_oks0, q_oks1, q_eqII, q_eqBB, q_eqSS, q_eqLL, q_eqTT, q_eqNN, q_eqNI, q_eqIN, q_eqs0, q_eqs1, Bool.true_and, Bool.and_true, beq_iff_eq, reduceCtorEq, wipeE, List.set_cons_zero, List.set_cons_succ, List.set_nil, Bool.not_true, Bool.not_false, List.getElem?_cons_zero, List.getElem?_cons_succ])
  intro _
  refine go_for (layI L) (fun us env s => s = st' ∧ (∀ z ∈ us, z ∈ L) ∧ ∃ (v8 v9 v10 v11 v12 v13 v15 v16 : Option D), env = [some (.obj i), some (.int h), some (.tup (row.map D.int)), some (.tup (more.map D.int)), some (tupR R), some (.lst ((setZ L).map D.int)), some (.lst ((setZ L).map (layI L))), some (.lst (L.map D.int)), v8, v9, v10, v11, v12, v13, some (.lst (L2.map D.int)), v15, v16]) ?_ ?_ _ _ _ ⟨rfl, fun z hz => mem_setZ.mp hz, _, _, _, _, _, _, _, _, rfl⟩
  · rintro z us _ _ nx ⟨rfl, hz, v8, v9, v10, v11, v12, v13, v15, v16, rfl⟩ q2
    refine ⟨trivial, ?_⟩
    simp only [layI]
    (try simp only [BEq.rfl, ↓e_v0, ↓e_vs, ↓e_c, ↓e_op, ↓e_un, ↓e_test, ↓e_testK, ↓e_tru, ↓e_truL, ↓e_truT, ↓e_truB, ↓e_truI, ↓e_truN, ↓e_truS, ↓e_not, ↓e_and, ↓e_or, ↓e_andv, ↓e_orv, ↓e_notv, ↓e_andK, ↓e_orK, ↓e_notK, ↓e_if, ↓e_nil, ↓e_cons, ↓e_tup, ↓e_lst, ↓e_new, ↓e_call, ↓e_callK, ↓e_drop, ↓e_ret, ↓e_retN, ↓e_pass, ↓e_ifS, ↓e_g0, ↓e_gs, ↓e_gnil, ↓e_gcons, ↓e_gtup, ↓e_asg, ↓e_par, ↓e_parK, ↓e_par3, ↓e_par3K, ↓e_chain, ↓e_chK, ↓e_no, ↓e_some, ↓e_someK, ↓e_cut, ↓e_b, ↓e_iter, ↓e_iterL, ↓e_iterT, ↓e_iterS, ↓e_rng1, ↓e_rng1K, ↓e_rng2, ↓e_rng2K, ↓e_rng3, ↓e_rng3K, ↓e_enum, ↓e_enumL, ↓e_enumT, ↓e_zip, ↓e_zipL, ↓e_zipT, ↓e_zipM, ↓e_zipMK, ↓e_zipS, ↓e_zipSK, ↓e_for, ↓e_lc, ↓e_lcNew, ↓e_meth, ↓e_isL, ↓e_sub, ↓e_aug, ↓e_augK, ↓e_isi, ↓e_yes, ↓e_bits, ↓e_bitsK, ↓e_cLast, ↓e_cLink, ↓e_cK, ↓e_cNext, ↓e_testCh, ↓e_addI, ↓e_addB, ↓e_addS, ↓e_addT, ↓e_addL, ↓e_subI, ↓e_mulI, ↓e_mulT, ↓e_mulL, ↓e_divI, ↓e_modI, ↓e_powI, ↓e_negI, ↓e_iadd, ↓e_cmpI, ↓e_eq, ↓e_ne, ↓e_isn, ↓e_isnn, ↓e_isb, ↓e_ixL, ↓e_ixKL, ↓e_ixT, ↓e_cutL, ↓e_cutKL, ↓e_cutT, ↓e_lenL, ↓e_lenKL, ↓e_lenT, ↓e_abs, ↓e_intI, ↓e_intB, ↓e_max2, ↓e_min2, ↓e_listL, ↓e_listT, ↓e_listNL, ↓e_listNT, ↓e_tupL, ↓e_tupT, ↓e_sum1T, ↓e_sum1L, ↓e_max1T, ↓e_max1L, ↓e_drI, ↓e_drB, ↓e_drS, ↓e_drN, ↓e_drL, ↓e_drT, ↓e_seq, ↓e_back, ↓e_backL, ↓e_backT, ↓e_sortedL, ↓e_sortedNL, ↓e_divmod, ↓e_lr1, ↓e_lr1K, ↓e_lr2, ↓e_lr2K, ↓e_lr3, ↓e_lr3K, ↓e_revR1, ↓e_revR1K, ↓e_srtSet, ↓e_unlL, ↓e_inL, ↓e_inKL, ↓e_inT, ↓e_inFlat, ↓e_drK, ↓e_srtSetL, ↓e_lenSet, ↓e_lenSetL, ↓e_enumF, ↓e_enumFT, ↓e_reprL, ↓e_reprT, ↓e_reprI, ↓e_reprB, ↓e_reprN, ↓e_reprS, ↓e_strI, ↓e_isub, ↓e_strB, ↓e_addBI, ↓e_subBI, ↓e_subIB, ↓e_drG, ↓e_dnew, ↓e_dgetF, ↓e_dget1, ↓e_dget2, ↓e_dsetdS, ↓e_dgPut, ↓e_lenSetZ, ↓e_lenSetZL, e_kyI, e_kyS, Nat.reduceAdd, Nat.zero_add, List.length_cons, List.length_nil, List.length_map, Nat.reduceLeDiff, and_true, true_and, if_true, ite_true, decide_eq_true_eq, Bool.not_eq_true, Bool.false_eq_true, if_false, ite_false, ↓reduceIte, Int.reduceToNat, Int.reducePow, ne_eq, q_okI, q_okB, q_okN, q_okS, q_okL, q_okT, q_oks0, q_oks1, q_eqII, q_eqBB, q_eqSS, q_eqLL, q_eqTT, q_eqNN, q_eqNI, q_eqIN, q_eqs0, q_eqs1, Bool.true_and, Bool.and_true, beq_iff_eq, reduceCtorEq, wipeE, List.set_cons_zero, List.set_cons_succ, List.set_nil, Bool.not_true, Bool.not_false, List.getElem?_cons_zero, List.getElem?_cons_succ])
    simp only [b2__law_right]
    (try simp only [BEq.rfl, ↓e_v0, ↓e_vs, ↓e_c, ↓e_op, ↓e_un, ↓e_test, ↓e_testK, ↓e_tru, ↓e_truL, ↓e_truT, ↓e_truB, ↓e_truI, ↓e_truN, ↓e_truS, ↓e_not, ↓e_and, ↓e_or, ↓e_andv, ↓e_orv, ↓e_notv, ↓e_andK, ↓e_orK, ↓e_notK, ↓e_if, ↓e_nil, ↓e_cons, ↓e_tup, ↓e_lst, ↓e_new, ↓e_call, ↓e_callK, ↓e_drop, ↓e_ret, ↓e_retN, ↓e_pass, ↓e_ifS, ↓e_g0, ↓e_gs, ↓e_gnil, ↓e_gcons, ↓e_gtup, ↓e_asg, ↓e_par, ↓e_parK, ↓e_par3, ↓e_par3K, ↓e_chain, ↓e_chK, ↓e_no, ↓e_some, ↓e_someK, ↓e_cut, ↓e_b, ↓e_iter, ↓e_iterL, ↓e_iterT, ↓e_iterS, ↓e_rng1, ↓e_rng1K, ↓e_rng2, ↓e_rng2K, ↓e_rng3, ↓e_rng3K, ↓e_enum, ↓e_enumL, ↓e_enumT, ↓e_zip, ↓e_zipL, ↓e_zipT, ↓e_zipM, ↓e_zipMK, ↓e_zipS, ↓e_zipSK, ↓e_for, ↓e_lc, ↓e_lcNew, ↓e_meth, ↓e_isL, ↓e_sub, ↓e_aug, ↓e_augK, ↓e_isi, ↓e_yes, ↓e_bits, ↓e_bitsK, ↓e_cLast, ↓e_cLink, ↓e_cK, ↓e_cNext, ↓e_testCh, ↓e_addI, ↓e_addB, ↓e_addS, ↓e_addT, ↓e_addL, ↓e_subI, ↓e_mulI, ↓e_mulT, ↓e_mulL, ↓e_divI, ↓e_modI, ↓e_powI, ↓e_negI, ↓e_iadd, ↓e_cmpI, ↓e_eq, ↓e_ne, ↓e_isn, ↓e_isnn, ↓e_isb, ↓e_ixL, ↓e_ixKL, ↓e_ixT, ↓e_cutL, ↓e_cutKL, ↓e_cutT, ↓e_lenL, ↓e_lenKL, ↓e_lenT, ↓e_abs, ↓e_intI, ↓e_intB, ↓e_max2, ↓e_min2, ↓e_listL, ↓e_listT, ↓e_listNL, ↓e_listNT, ↓e_tupL, ↓e_tupT, ↓e_sum1T, ↓e_sum1L, ↓e_max1T, ↓e_max1L, ↓e_drI, ↓e_drB, ↓e_drS, ↓e_drN, ↓e_drL, ↓e_drT, ↓e_seq, ↓e_back, ↓e_backL, ↓e_backT, ↓e_sortedL, ↓e_sortedNL, ↓e_divmod, ↓e_lr1, ↓e_lr1K, ↓e_lr2, ↓e_lr2K, ↓e_lr3, ↓e_lr3K, ↓e_revR1, ↓e_revR1K, ↓e_srtSet, ↓e_unlL, ↓e_inL, ↓e_inKL, ↓e_inT, ↓e_inFlat, ↓e_drK, ↓e_srtSetL, ↓e_lenSet, ↓e_lenSetL, ↓e_enumF, ↓e_enumFT, ↓e_reprL, ↓e_reprT, ↓e_reprI, ↓e_reprB, ↓e_reprN, ↓e_reprS, ↓e_strI, ↓e_isub, ↓e_strB, ↓e_addBI, ↓e_subBI, ↓e_subIB, ↓e_drG, ↓e_dnew, ↓e_dgetF, ↓e_dget1, ↓e_dget2, ↓e_dsetdS, ↓e_dgPut, ↓e_lenSetZ, ↓e_lenSetZL, e_kyI, e_kyS, Nat.reduceAdd, Nat.zero_add, List.length_cons, List.length_nil, List.length_map, Nat.reduceLeDiff, and_true, true_and, if_true, ite_true, decide_eq_true_eq, Bool.not_eq_true, Bool.false_eq_true, if_false, ite_false, ↓reduceIte, Int.reduceToNat, Int.reducePow, ne_eq, q_okI, q_okB, q_okN, q_okS, q_okL, q_okT, q_oks0, q_oks1, q_eqII, q_eqBB, q_eqSS, q_eqLL, q_eqTT, q_eqNN, q_eqNI, q_eqIN, q_eqs0, q_eqs1, Bool.true_and, Bool.and_true, beq_iff_eq, reduceCtorEq, wipeE, List.set_cons_zero, List.set_cons_succ, List.set_nil, Bool.not_true, Bool.not_false, List.getElem?_cons_zero, List.getElem?_cons_succ])
    have li := idxF_len z L 0
    refine fun _ => ⟨by omega, ?_⟩
    refine lc_map D.int (fun _ => D.int (ledI more z)) _ _ (by exact trivial) _ (fun x hx kd k => ?_) ?_
    · simp only [e5__law_right]
      obtain ⟨j, j1, j2⟩ := mem_idxF.mp hx
      (try simp only [BEq.rfl, ↓e_v0, ↓e_vs, ↓e_c, ↓e_op, ↓e_un, ↓e_test, ↓e_testK, ↓e_tru, ↓e_truL, ↓e_truT, ↓e_truB, ↓e_truI, ↓e_truN, ↓e_truS, ↓e_not, ↓e_and, ↓e_or, ↓e_andv, ↓e_orv, ↓e_notv, ↓e_andK, ↓e_orK, ↓e_notK, ↓e_if, ↓e_nil, ↓e_cons, ↓e_tup, ↓e_lst, ↓e_new, ↓e_call, ↓e_callK, ↓e_drop, ↓e_ret, ↓e_retN, ↓e_pass, ↓e_ifS, ↓e_g0, ↓e_gs, ↓e_gnil, ↓e_gcons, ↓e_gtup, ↓e_asg, ↓e_par, ↓e_parK, ↓e_par3, ↓e_par3K, ↓e_chain, ↓e_chK, ↓e_no, ↓e_some, ↓e_someK, ↓e_cut, ↓e_b, ↓e_iter, ↓e_iterL, ↓e_iterT, ↓e_iterS, ↓e_rng1, ↓e_rng1K, ↓e_rng2, ↓e_rng2K, ↓e_rng3, ↓e_rng3K, ↓e_enum, ↓e_enumL, ↓e_enumT, ↓e_zip, ↓e_zipL, ↓e_zipT, ↓e_zipM, ↓e_zipMK, ↓e_zipS, ↓e_zipSK, ↓e_for, ↓e_lc, ↓e_lcNew, ↓e_meth, ↓e_isL, ↓e_sub, ↓e_aug, ↓e_augK, ↓e_isi, ↓e_yes, ↓e_bits, ↓e_bitsK, ↓e_cLast, ↓e_cLink, ↓e_cK, ↓e_cNext, ↓e_testCh, ↓e_addI, ↓e_addB, ↓e_addS, ↓e_addT, ↓e_addL, ↓e_subI, ↓e_mulI, ↓e_mulT, ↓e_mulL, ↓e_divI, ↓e_modI, ↓e_powI, ↓e_negI, ↓e_iadd, ↓e_cmpI, ↓e_eq, ↓e_ne, ↓e_isn, ↓e_isnn, ↓e_isb, ↓e_ixL, ↓e_ixKL, ↓e_ixT, ↓e_cutL, ↓e_cutKL, ↓e_cutT, ↓e_lenL, ↓e_lenKL, ↓e_lenT, ↓e_abs, ↓e_intI, ↓e_intB, ↓e_max2, ↓e_min2, ↓e_listL, ↓e_listT, ↓e_listNL, ↓e_listNT, ↓e_tupL, ↓e_tupT, ↓e_sum1T, ↓e_sum1L, ↓e_max1T, ↓e_max1L, ↓e_drI, ↓e_drB, ↓e_drS, ↓e_drN, ↓e_drL, ↓e_drT, ↓e_seq, ↓e_back, ↓e_backL, ↓e_backT, ↓e_sortedL, ↓e_sortedNL, ↓e_divmod, ↓e_lr1, ↓e_lr1K, ↓e_lr2, ↓e_lr2K, ↓e_lr3, ↓e_lr3K, ↓e_revR1, ↓e_revR1K, ↓e_srtSet, ↓e_unlL, ↓e_inL, ↓e_inKL, ↓e_inT, ↓e_inFlat, ↓e_drK, ↓e_srtSetL, ↓e_lenSet, ↓e_lenSetL, ↓e_enumF, ↓e_enumFT, ↓e_reprL, ↓e_reprT, ↓e_reprI, ↓e_reprB, ↓e_reprN, ↓e_reprS, ↓e_strI, ↓e_isub, ↓e_strB, ↓e_addBI, ↓e_subBI, ↓e_subIB, ↓e_drG, ↓e_dnew, ↓e_dgetF, ↓e_dget1, ↓e_dget2, ↓e_dsetdS, ↓e_dgPut, ↓e_lenSetZ, ↓e_lenSetZL, e_kyI, e_kyS, Nat.reduceAdd, Nat.zero_add, List.length_cons, List.length_nil, List.length_map, Nat.reduceLeDiff, and_true, true_and, if_true, ite_true, decide_eq_true_eq, Bool.not_eq_true, Bool.false_eq_true, if_false, ite_false, ↓reduceIte, Int.reduceToNat, Int.reducePow, ne_eq, q_okI, q_okB, q_okN, q_okS, q_okL, q_okT, q_oks0, q_oks1, q_eqII, q_eqBB, q_eqSS, q_eqLL, q_eqTT, q_eqNN, q_eqNI, q_eqIN, q_eqs0, q_eqs1, Bool.true_and, Bool.and_true, beq_iff_eq, reduceCtorEq, wipeE, List.set_cons_zero, List.set_cons_succ, List.set_nil, Bool.not_true, Bool.not_false, List.getElem?_cons_zero, List.getElem?_cons_succ])
      refine ⟨dv2, .int (ledI more z), ?_, k⟩
      rw [show x / 2 = ((j : Nat) : Int) by omega]
      refine atI_nat ?_
      rw [List.getElem?_map, later j z j1]
      rfl
    rw [List.nil_append, show (idxF z L 0).map (fun _ => D.int (ledI more z)) = ((idxF z L 0).map fun _ => ledI more z).map D.int by rw [List.map_map]; rfl]
    have ne : ((idxF z L 0).map fun _ => ledI more z) ≠ [] := by
      obtain ⟨j, hj, e⟩ := List.mem_iff_getElem.mp (hz z List.mem_cons_self)
      have : 2 * ((0 + j : Nat) : Int) + 1 ∈ idxF z L 0 := mem_idxF.mpr ⟨j, by rw [List.getElem?_eq_getElem hj, e], rfl⟩
      intro e
      rw [List.map_eq_nil_iff] at e
      rw [e] at this
      cases this
    have sc := set_const (c := ledI more z) (fun x hx => by obtain ⟨_, _, e⟩ := List.mem_map.mp hx; exact e.symm) ne
    rw [e_lenSetZL, sc]
    refine ⟨by rw [List.length_map]; omega, ?_⟩
    (try simp only [BEq.rfl, ↓e_v0, ↓e_vs, ↓e_c, ↓e_op, ↓e_un, ↓e_test, ↓e_testK, ↓e_tru, ↓e_truL, ↓e_truT, ↓e_truB, ↓e_truI, ↓e_truN, ↓e_truS, ↓e_not, ↓e_and, ↓e_or, ↓e_andv, ↓e_orv, ↓e_notv, ↓e_andK, ↓e_orK, ↓e_notK, ↓e_if, ↓e_nil, ↓e_cons, ↓e_tup, ↓e_lst, ↓e_new, ↓e_call, ↓e_callK, ↓e_drop, ↓e_ret, ↓e_retN, ↓e_pass, ↓e_ifS, ↓e_g0, ↓e_gs, ↓e_gnil, ↓e_gcons, ↓e_gtup, ↓e_asg, ↓e_par, ↓e_parK, ↓e_par3, ↓e_par3K, ↓e_chain, ↓e_chK, ↓e_no, ↓e_some, ↓e_someK, ↓e_cut, ↓e_b, ↓e_iter, ↓e_iterL, ↓e_iterT, ↓e_iterS, ↓e_rng1, ↓e_rng1K, ↓e_rng2, ↓e_rng2K, ↓e_rng3, ↓e_rng3K, ↓e_enum, ↓e_enumL, ↓e_enumT, ↓e_zip, ↓e_zipL, ↓e_zipT, ↓e_zipM, ↓e_zipMK, ↓e_zipS, ↓e_zipSK, ↓e_for, ↓e_lc, ↓e_lcNew, ↓e_meth, ↓e_isL, ↓e_sub, ↓e_aug, ↓e_augK, ↓e_isi, ↓e_yes, ↓e_bits, ↓e_bitsK, ↓e_cLast, ↓e_cLink, ↓e_cK, ↓e_cNext, ↓e_testCh, ↓e_addI, ↓e_addB, ↓e_addS, ↓e_addT, ↓e_addL, ↓e_subI, ↓e_mulI, ↓e_mulT, ↓e_mulL, ↓e_divI, ↓e_modI, ↓e_powI, ↓e_negI, ↓e_iadd, ↓e_cmpI, ↓e_eq, ↓e_ne, ↓e_isn, ↓e_isnn, ↓e_isb, ↓e_ixL, ↓e_ixKL, ↓e_ixT, ↓e_cutL, ↓e_cutKL, ↓e_cutT, ↓e_lenL, ↓e_lenKL, ↓e_lenT, ↓e_abs, ↓e_intI, ↓e_intB, ↓e_max2, ↓e_min2, ↓e_listL, ↓e_listT, ↓e_listNL, ↓e_listNT, ↓e_tupL, ↓e_tupT, ↓e_sum1T, ↓e_sum1L, ↓e_max1T, ↓e_max1L, ↓e_drI, ↓e_drB, ↓e_drS, ↓e_drN, ↓e_drL, ↓e_drT, ↓e_seq, ↓e_back, ↓e_backL, ↓e_backT, ↓e_sortedL, ↓e_sortedNL, ↓e_divmod, ↓e_lr1, ↓e_lr1K, ↓e_lr2, ↓e_lr2K, ↓e_lr3, ↓e_lr3K, ↓e_revR1, ↓e_revR1K, ↓e_srtSet, ↓e_unlL, ↓e_inL, ↓e_inKL, ↓e_inT, ↓e_inFlat, ↓e_drK, ↓e_srtSetL, ↓e_lenSet, ↓e_lenSetL, ↓e_enumF, ↓e_enumFT, ↓e_reprL, ↓e_reprT, ↓e_reprI, ↓e_reprB, ↓e_reprN, ↓e_reprS, ↓e_strI, ↓e_isub, ↓e_strB, ↓e_addBI, ↓e_subBI, ↓e_subIB, ↓e_drG, ↓e_dnew, ↓e_dgetF, ↓e_dget1, ↓e_dget2, ↓e_dsetdS, ↓e_dgPut, ↓e_lenSetZ, ↓e_lenSetZL, e_kyI, e_kyS, Nat.reduceAdd, Nat.zero_add, List.length_cons, List.length_nil, List.length_map, Nat.reduceLeDiff, and_true, true_and, if_true, ite_true, decide_eq_true_eq, Bool.not_eq_true, Bool.false_eq_true, if_false, ite_false, ↓reduceIte, Int.reduceToNat, Int.reducePow, ne_eq, q_okI, q_okB, q_okN, q_okS, q_okL, q_okT, q_oks0, q_oks1, q_eqII, q_eqBB, q_eqSS, q_eqLL, q_eqTT, q_eqNN, q_eqNI, q_eqIN, q_eqs0, q_eqs1, Bool.true_and, Bool.and_true, beq_iff_eq, reduceCtorEq, wipeE, List.set_cons_zero, List.set_cons_succ, List.set_nil, Bool.not_true, Bool.not_false, List.getElem?_cons_zero, List.getElem?_cons_succ])
    rw [if_neg (by decide)]
    exact q2 _ _ ⟨rfl, fun z hz' => hz z (List.mem_cons_of_mem _ hz'), _, _, _, _, _, _, _, _, rfl⟩
  rintro _ _ ⟨rfl, _, v8, v9, v10, v11, v12, v13, v15, v16, rfl⟩
  refine ⟨trivial, ?_⟩
  simp only [z18__law_right]
  (try simp only [BEq.rfl, ↓e_v0, ↓e_vs, ↓e_c, ↓e_op, ↓e_un, ↓e_test, ↓e_testK, ↓e_tru, ↓e_truL, ↓e_truT, ↓e_truB, ↓e_truI, ↓e_truN, ↓e_truS, ↓e_not, ↓e_and, ↓e_or, ↓e_andv, ↓e_orv, ↓e_notv, ↓e_andK, ↓e_orK, ↓e_notK, ↓e_if, ↓e_nil, ↓e_cons, ↓e_tup, ↓e_lst, ↓e_new, ↓e_call, ↓e_callK, ↓e_drop, ↓e_ret, ↓e_retN, ↓e_pass, ↓e_ifS, ↓e_g0, ↓e_gs, ↓e_gnil, ↓e_gcons, ↓e_gtup, ↓e_asg, ↓e_par, ↓e_parK, ↓e_par3, ↓e_par3K, ↓e_chain, ↓e_chK, ↓e_no, ↓e_some, ↓e_someK, ↓e_cut, ↓e_b, ↓e_iter, ↓e_iterL, ↓e_iterT, ↓e_iterS, ↓e_rng1, ↓e_rng1K, ↓e_rng2, ↓e_rng2K, ↓e_rng3, ↓e_rng3K, ↓e_enum, ↓e_enumL, ↓e_enumT, ↓e_zip, ↓e_zipL, ↓e_zipT, ↓e_zipM, ↓e_zipMK, ↓e_zipS, ↓e_zipSK, ↓e_for, ↓e_lc, ↓e_lcNew, ↓e_meth, ↓e_isL, ↓e_sub, ↓e_aug, ↓e_augK, ↓e_isi, ↓e_yes, ↓e_bits, ↓e_bitsK, ↓e_cLast, ↓e_cLink, ↓e_cK, ↓e_cNext, ↓e_testCh, ↓e_addI, ↓e_addB, ↓e_addS, ↓e_addT, ↓e_addL, ↓e_subI, ↓e_mulI, ↓e_mulT, ↓e_mulL, ↓e_divI, ↓e_modI, ↓e_powI, ↓e_negI, ↓e_iadd, ↓e_cmpI, ↓e_eq, ↓e_ne, ↓e_isn, ↓e_isnn, ↓e_isb, ↓e_ixL, ↓e_ixKL, ↓e_ixT, ↓e_cutL, ↓e_cutKL, ↓e_cutT, ↓e_lenL, ↓e_lenKL, ↓e_lenT, ↓e_abs, ↓e_intI, ↓e_intB, ↓e_max2, ↓e_min2, ↓e_listL, ↓e_listT, ↓e_listNL, ↓e_listNT, ↓e_tupL, ↓e_tupT, ↓e_sum1T, ↓e_sum1L, ↓e_max1T, ↓e_max1L, ↓e_drI, ↓e_drB, ↓e_drS, ↓e_drN, ↓e_drL, ↓e_drT, ↓e_seq, ↓e_back, ↓e_backL, ↓e_backT, ↓e_sortedL, ↓e_sortedNL, ↓e_divmod, ↓e_lr1, ↓e_lr1K, ↓e_lr2, ↓e_lr2K, ↓e_lr3, ↓e_lr3K, ↓e_revR1, ↓e_revR1K, ↓e_srtSet, ↓e_unlL, ↓e_inL, ↓e_inKL, ↓e_inT, ↓e_inFlat, ↓e_drK, ↓e_srtSetL, ↓e_lenSet, ↓e_lenSetL, ↓e_enumF, ↓e_enumFT, ↓e_reprL, ↓e_reprT, ↓e_reprI, ↓e_reprB, ↓e_reprN, ↓e_reprS, ↓e_strI, ↓e_isub, ↓e_strB, ↓e_addBI, ↓e_subBI, ↓e_subIB, ↓e_drG, ↓e_dnew, ↓e_dgetF, ↓e_dget1, ↓e_dget2, ↓e_dsetdS, ↓e_dgPut, ↓e_lenSetZ, ↓e_lenSetZL, e_kyI, e_kyS, Nat.reduceAdd, Nat.zero_add, List.length_cons, List.length_nil, List.length_map, Nat.reduceLeDiff, and_true, true_and, if_true, ite_true, decide_eq_true_eq, Bool.not_eq_true, Bool.false_eq_true, if_false, ite_false, ↓reduceIte, Int.reduceToNat, Int.reducePow, ne_eq, q_okI, q_okB, q_okN, q_okS, q_okL, q_okT, q_oks0, q_oks1, q_eqII, q_eqBB, q_eqSS, q_eqLL, q_eqTT, q_eqNN, q_eqNI, q_eqIN, q_eqs0, q_eqs1, Bool.true_and, Bool.and_true, beq_iff_eq, reduceCtorEq, wipeE, List.set_cons_zero, List.set_cons_succ, List.set_nil, Bool.not_true, Bool.not_false, List.getElem?_cons_zero, List.getElem?_cons_succ])
  refine ⟨by omega, ?_⟩
  simp only [z19__law_right]
  (try simp only [BEq.rfl, ↓e_v0, ↓e_vs, ↓e_c, ↓e_op, ↓e_un, ↓e_test, ↓e_testK, ↓e_tru, ↓e_truL, ↓e_truT, ↓e_truB, ↓e_truI, ↓e_truN, ↓e_truS, ↓e_not, ↓e_and, ↓e_or, ↓e_andv, ↓e_orv, ↓e_notv, ↓e_andK, ↓e_orK, ↓e_notK, ↓e_if, ↓e_nil, ↓e_cons, ↓e_tup, ↓e_lst, ↓e_new, ↓e_call, ↓e_callK, ↓e_drop, ↓e_ret, ↓e_retN, ↓e_pass, ↓e_ifS, ↓e_g0, ↓e_gs, ↓e_gnil, ↓e_gcons, ↓e_gtup, ↓e_asg, ↓e_par, ↓e_parK, ↓e_par3, ↓e_par3K, ↓e_chain, ↓e_chK, ↓e_no, ↓e_some, ↓e_someK, ↓e_cut, ↓e_b, ↓e_iter, ↓e_iterL, ↓e_iterT, ↓e_iterS, ↓e_rng1, ↓e_rng1K, ↓e_rng2, ↓e_rng2K, ↓e_rng3, ↓e_rng3K, ↓e_enum, ↓e_enumL, ↓e_enumT, ↓e_zip, ↓e_zipL, ↓e_zipT, ↓e_zipM, ↓e_zipMK, ↓e_zipS, ↓e_zipSK, ↓e_for, ↓e_lc, ↓e_lcNew, ↓e_meth, ↓e_isL, ↓e_sub, ↓e_aug, ↓e_augK, ↓e_isi, ↓e_yes, ↓e_bits, ↓e_bitsK, ↓e_cLast, ↓e_cLink, ↓e_cK, ↓e_cNext, ↓e_testCh, ↓e_addI, ↓e_addB, ↓e_addS, ↓e_addT, ↓e_addL, ↓e_subI, ↓e_mulI, ↓e_mulT, ↓e_mulL, ↓e_divI, ↓e_modI, ↓e_powI, ↓e_negI, ↓e_iadd, ↓e_cmpI, ↓e_eq, ↓e_ne, ↓e_isn, ↓e_isnn, ↓e_isb, ↓e_ixL, ↓e_ixKL, ↓e_ixT, ↓e_cutL, ↓e_cutKL, ↓e_cutT, ↓e_lenL, ↓e_lenKL, ↓e_lenT, ↓e_abs, ↓e_intI, ↓e_intB, ↓e_max2, ↓e_min2, ↓e_listL, ↓e_listT, ↓e_listNL, ↓e_listNT, ↓e_tupL, ↓e_tupT, ↓e_sum1T, ↓e_sum1L, ↓e_max1T, ↓e_max1L, ↓e_drI, ↓e_drB, ↓e_drS, ↓e_drN, ↓e_drL, ↓e_drT, ↓e_seq, ↓e_back, ↓e_backL, ↓e_backT, ↓e_sortedL, ↓e_sortedNL, ↓e_divmod, ↓e_lr1, ↓e_lr1K, ↓e_lr2, ↓e_lr2K, ↓e_lr3, ↓e_lr3K, ↓e_revR1, ↓e_revR1K, ↓e_srtSet, ↓e_unlL, ↓e_inL, ↓e_inKL, ↓e_inT, ↓e_inFlat, ↓e_drK, ↓e_srtSetL, ↓e_lenSet, ↓e_lenSetL, ↓e_enumF, ↓e_enumFT, ↓e_reprL, ↓e_reprT, ↓e_reprI, ↓e_reprB, ↓e_reprN, ↓e_reprS, ↓e_strI, ↓e_isub, ↓e_strB, ↓e_addBI, ↓e_subBI, ↓e_subIB, ↓e_drG, ↓e_dnew, ↓e_dgetF, ↓e_dget1, ↓e_dget2, ↓e_dsetdS, ↓e_dgPut, ↓e_lenSetZ, ↓e_lenSetZL, e_kyI, e_kyS, Nat.reduceAdd, Nat.zero_add, List.length_cons, List.length_nil, List.length_map, Nat.reduceLeDiff, and_true, true_and, if_true, ite_true, decide_eq_true_eq, Bool.not_eq_true, Bool.false_eq_true, if_false, ite_false, ↓reduceIte, Int.reduceToNat, Int.reducePow, ne_eq, q_okI, q_okB, q_okN, q_okS, q_okL, q_okT, q_oks0, q_oks1, q_eqII, q_eqBB, q_eqSS, q_eqLL, q_eqTT, q_eqNN, q_eqNI, q_eqIN, q_eqs0, q_eqs1, Bool.true_and, Bool.and_true, beq_iff_eq, reduceCtorEq, wipeE, List.set_cons_zero, List.set_cons_succ, List.set_nil, Bool.not_true, Bool.not_false, List.getElem?_cons_zero, List.getElem?_cons_succ])
  refine ⟨R, more, rfl, ?_⟩
  have okf := folds_ok more okr
  have s1 := spot_folds more okr
  have s0 := spot_pos okf
  cases hw : wholeR R more with
  | true =>
    have := whole_spots more okr hw
    (try simp only [BEq.rfl, ↓e_v0, ↓e_vs, ↓e_c, ↓e_op, ↓e_un, ↓e_test, ↓e_testK, ↓e_tru, ↓e_truL, ↓e_truT, ↓e_truB, ↓e_truI, ↓e_truN, ↓e_truS, ↓e_not, ↓e_and, ↓e_or, ↓e_andv, ↓e_orv, ↓e_notv, ↓e_andK, ↓e_orK, ↓e_notK, ↓e_if, ↓e_nil, ↓e_cons, ↓e_tup, ↓e_lst, ↓e_new, ↓e_call, ↓e_callK, ↓e_drop, ↓e_ret, ↓e_retN, ↓e_pass, ↓e_ifS, ↓e_g0, ↓e_gs, ↓e_gnil, ↓e_gcons, ↓e_gtup, ↓e_asg, ↓e_par, ↓e_parK, ↓e_par3, ↓e_par3K, ↓e_chain, ↓e_chK, ↓e_no, ↓e_some, ↓e_someK, ↓e_cut, ↓e_b, ↓e_iter, ↓e_iterL, ↓e_iterT, ↓e_iterS, ↓e_rng1, ↓e_rng1K, ↓e_rng2, ↓e_rng2K, ↓e_rng3, ↓e_rng3K, ↓e_enum, ↓e_enumL, ↓e_enumT, ↓e_zip, ↓e_zipL, ↓e_zipT, ↓e_zipM, ↓e_zipMK, ↓e_zipS, ↓e_zipSK, ↓e_for, ↓e_lc, ↓e_lcNew, ↓e_meth, ↓e_isL, ↓e_sub, ↓e_aug, ↓e_augK, ↓e_isi, ↓e_yes, ↓e_bits, ↓e_bitsK, ↓e_cLast, ↓e_cLink, ↓e_cK, ↓e_cNext, ↓e_testCh, ↓e_addI, ↓e_addB, ↓e_addS, ↓e_addT, ↓e_addL, ↓e_subI, ↓e_mulI, ↓e_mulT, ↓e_mulL, ↓e_divI, ↓e_modI, ↓e_powI, ↓e_negI, ↓e_iadd, ↓e_cmpI, ↓e_eq, ↓e_ne, ↓e_isn, ↓e_isnn, ↓e_isb, ↓e_ixL, ↓e_ixKL, ↓e_ixT, ↓e_cutL, ↓e_cutKL, ↓e_cutT, ↓e_lenL, ↓e_lenKL, ↓e_lenT, ↓e_abs, ↓e_intI, ↓e_intB, ↓e_max2, ↓e_min2, ↓e_listL, ↓e_listT, ↓e_listNL, ↓e_listNT, ↓e_tupL, ↓e_tupT, ↓e_sum1T, ↓e_sum1L, ↓e_max1T, ↓e_max1L, ↓e_drI, ↓e_drB, ↓e_drS, ↓e_drN, ↓e_drL, ↓e_drT, ↓e_seq, ↓e_back, ↓e_backL, ↓e_backT, ↓e_sortedL, ↓e_sortedNL, ↓e_divmod, ↓e_lr1, ↓e_lr1K, ↓e_lr2, ↓e_lr2K, ↓e_lr3, ↓e_lr3K, ↓e_revR1, ↓e_revR1K, ↓e_srtSet, ↓e_unlL, ↓e_inL, ↓e_inKL, ↓e_inT, ↓e_inFlat, ↓e_drK, ↓e_srtSetL, ↓e_lenSet, ↓e_lenSetL, ↓e_enumF, ↓e_enumFT, ↓e_reprL, ↓e_reprT, ↓e_reprI, ↓e_reprB, ↓e_reprN, ↓e_reprS, ↓e_strI, ↓e_isub, ↓e_strB, ↓e_addBI, ↓e_subBI, ↓e_subIB, ↓e_drG, ↓e_dnew, ↓e_dgetF, ↓e_dget1, ↓e_dget2, ↓e_dsetdS, ↓e_dgPut, ↓e_lenSetZ, ↓e_lenSetZL, e_kyI, e_kyS, Nat.reduceAdd, Nat.zero_add, List.length_cons, List.length_nil, List.length_map, Nat.reduceLeDiff, and_true, true_and, if_true, ite_true, decide_eq_true_eq, Bool.not_eq_true, Bool.false_eq_true, if_false, ite_false, ↓reduceIte, Int.reduceToNat, Int.reducePow, ne_eq, q_okI, q_okB, q_okN, q_okS, q_okL, q_okT, q_oks0, q_oks1, q_eqII, q_eqBB, q_eqSS, q_eqLL, q_eqTT, q_eqNN, q_eqNI, q_eqIN, q_eqs0, q_eqs1, Bool.true_and, Bool.and_true, beq_iff_eq, reduceCtorEq, wipeE, List.set_cons_zero, List.set_cons_succ, List.set_nil, Bool.not_true, Bool.not_false, List.getElem?_cons_zero, List.getElem?_cons_succ])
    rw [LS, LS2, oddsR_length, oddsR_length, this, beq_self_eq_true]
    exact q'
  | false =>
    have : spotR (foldsR R more) ≠ spotR R := fun e => by rw [whole_of more okr e] at hw; cases hw
    (try simp only [BEq.rfl, ↓e_v0, ↓e_vs, ↓e_c, ↓e_op, ↓e_un, ↓e_test, ↓e_testK, ↓e_tru, ↓e_truL, ↓e_truT, ↓e_truB, ↓e_truI, ↓e_truN, ↓e_truS, ↓e_not, ↓e_and, ↓e_or, ↓e_andv, ↓e_orv, ↓e_notv, ↓e_andK, ↓e_orK, ↓e_notK, ↓e_if, ↓e_nil, ↓e_cons, ↓e_tup, ↓e_lst, ↓e_new, ↓e_call, ↓e_callK, ↓e_drop, ↓e_ret, ↓e_retN, ↓e_pass, ↓e_ifS, ↓e_g0, ↓e_gs, ↓e_gnil, ↓e_gcons, ↓e_gtup, ↓e_asg, ↓e_par, ↓e_parK, ↓e_par3, ↓e_par3K, ↓e_chain, ↓e_chK, ↓e_no, ↓e_some, ↓e_someK, ↓e_cut, ↓e_b, ↓e_iter, ↓e_iterL, ↓e_iterT, ↓e_iterS, ↓e_rng1, ↓e_rng1K, ↓e_rng2, ↓e_rng2K, ↓e_rng3, ↓e_rng3K, ↓e_enum, ↓e_enumL, ↓e_enumT, ↓e_zip, ↓e_zipL, ↓e_zipT, ↓e_zipM, ↓e_zipMK, ↓e_zipS, ↓e_zipSK, ↓e_for, ↓e_lc, ↓e_lcNew, ↓e_meth, ↓e_isL, ↓e_sub, ↓e_aug, ↓e_augK, ↓e_isi, ↓e_yes, ↓e_bits, ↓e_bitsK, ↓e_cLast, ↓e_cLink, ↓e_cK, ↓e_cNext, ↓e_testCh, ↓e_addI, ↓e_addB, ↓e_addS, ↓e_addT, ↓e_addL, ↓e_subI, ↓e_mulI, ↓e_mulT, ↓e_mulL, ↓e_divI, ↓e_modI, ↓e_powI, ↓e_negI, ↓e_iadd, ↓e_cmpI, ↓e_eq, ↓e_ne, ↓e_isn, ↓e_isnn, ↓e_isb, ↓e_ixL, ↓e_ixKL, ↓e_ixT, ↓e_cutL, ↓e_cutKL, ↓e_cutT, ↓e_lenL, ↓e_lenKL, ↓e_lenT, ↓e_abs, ↓e_intI, ↓e_intB, ↓e_max2, ↓e_min2, ↓e_listL, ↓e_listT, ↓e_listNL, ↓e_listNT, ↓e_tupL, ↓e_tupT, ↓e_sum1T, ↓e_sum1L, ↓e_max1T, ↓e_max1L, ↓e_drI, ↓e_drB, ↓e_drS, ↓e_drN, ↓e_drL, ↓e_drT, ↓e_seq, ↓e_back, ↓e_backL, ↓e_backT, ↓e_sortedL, ↓e_sortedNL, ↓e_divmod, ↓e_lr1, ↓e_lr1K, ↓e_lr2, ↓e_lr2K, ↓e_lr3, ↓e_lr3K, ↓e_revR1, ↓e_revR1K, ↓e_srtSet, ↓e_unlL, ↓e_inL, ↓e_inKL, ↓e_inT, ↓e_inFlat, ↓e_drK, ↓e_srtSetL, ↓e_lenSet, ↓e_lenSetL, ↓e_enumF, ↓e_enumFT, ↓e_reprL, ↓e_reprT, ↓e_reprI, ↓e_reprB, ↓e_reprN, ↓e_reprS, ↓e_strI, ↓e_isub, ↓e_strB, ↓e_addBI, ↓e_subBI, ↓e_subIB, ↓e_drG, ↓e_dnew, ↓e_dgetF, ↓e_dget1, ↓e_dget2, ↓e_dsetdS, ↓e_dgPut, ↓e_lenSetZ, ↓e_lenSetZL, e_kyI, e_kyS, Nat.reduceAdd, Nat.zero_add, List.length_cons, List.length_nil, List.length_map, Nat.reduceLeDiff, and_true, true_and, if_true, ite_true, decide_eq_true_eq, Bool.not_eq_true, Bool.false_eq_true, if_false, ite_false, ↓reduceIte, Int.reduceToNat, Int.reducePow, ne_eq, q_okI, q_okB, q_okN, q_okS, q_okL, q_okT, q_oks0, q_oks1, q_eqII, q_eqBB, q_eqSS, q_eqLL, q_eqTT, q_eqNN, q_eqNI, q_eqIN, q_eqs0, q_eqs1, Bool.true_and, Bool.and_true, beq_iff_eq, reduceCtorEq, wipeE, List.set_cons_zero, List.set_cons_succ, List.set_nil, Bool.not_true, Bool.not_false, List.getElem?_cons_zero, List.getElem?_cons_succ])
    rw [LS, LS2, oddsR_length, oddsR_length, decide_eq_true (by omega)]
    exact q'
def b1_law : DS :=
    (dIfS (dNot (dTru (dCall sp__law_right (dCons (dVar 3) (dCons (dOp addD (dC (.int 1)) (dCall sp__law_draw (dCons (dVar 3) (dCons (dC (.int 8)) dNil)))) dNil))))) (dRet (dC (.bl false))) dPass)
def z4_law : DS :=
    (dFor (dRng1 (dC (.int 4))) (dgName 4) (b1_law))
def b2_law : DS :=
    (dSeq (dAsg (dCall sp__law_tape (dCons (dVar 1) (dCons (dVar 2) dNil))) (dgName 3))
    (z4_law))
def z7_law : DS :=
    (dRet (dC (.bl true)))
def z2_law : DS :=
    (dSeq (dFor (dRng1 (dB bLen (dCons (dVar 1) dNil))) (dgName 2) (b2_law))
    (z7_law))
def t_law : DS :=
    (dSeq (dAsg (dIf (dTest (dOp (eqOp true) (dVar 0) (dLst dNil))) (dCall sp__law_folded (dCons (dVar 0) (dCons (dC (.int 3)) dNil))) (dLst (dCons (dC (.int 0)) dNil))) (dgName 1))
    (z2_law))
theorem st_law (a0 : D) : startD N_law [a0] = [some a0, none, none, none, none] := rfl
def sp_law : SpD := spLaw
theorem len_law (ds : List D) (st : Sto) (kk : DK) (h : spLaw ds st kk) : ds.length = 1 := by
  obtain ⟨ns, rfl, _⟩ := h
  rfl
theorem p_law : BodyD false N_law spLaw t_law := by
  rintro ds st kk ⟨ns, rfl, h1, h2, rfl, h⟩
  rw [st_law]
  simp only [t_law]
  (try simp only [BEq.rfl, ↓e_v0, ↓e_vs, ↓e_c, ↓e_op, ↓e_un, ↓e_test, ↓e_testK, ↓e_tru, ↓e_truL, ↓e_truT, ↓e_truB, ↓e_truI, ↓e_truN, ↓e_truS, ↓e_not, ↓e_and, ↓e_or, ↓e_andv, ↓e_orv, ↓e_notv, ↓e_andK, ↓e_orK, ↓e_notK, ↓e_if, ↓e_nil, ↓e_cons, ↓e_tup, ↓e_lst, ↓e_new, ↓e_call, ↓e_callK, ↓e_drop, ↓e_ret, ↓e_retN, ↓e_pass, ↓e_ifS, ↓e_g0, ↓e_gs, ↓e_gnil, ↓e_gcons, ↓e_gtup, ↓e_asg, ↓e_par, ↓e_parK, ↓e_par3, ↓e_par3K, ↓e_chain, ↓e_chK, ↓e_no, ↓e_some, ↓e_someK, ↓e_cut, ↓e_b, ↓e_iter, ↓e_iterL, ↓e_iterT, ↓e_iterS, ↓e_rng1, ↓e_rng1K, ↓e_rng2, ↓e_rng2K, ↓e_rng3, ↓e_rng3K, ↓e_enum, ↓e_enumL, ↓e_enumT, ↓e_zip, ↓e_zipL, ↓e_zipT, ↓e_zipM, ↓e_zipMK, ↓e_zipS, ↓e_zipSK, ↓e_for, ↓e_lc, ↓e_lcNew, ↓e_forN, ↓e_forC, ↓e_lcN, ↓e_lcC, ↓e_srcN, ↓e_srcC, ↓e_meth, ↓e_isL, ↓e_sub, ↓e_aug, ↓e_augK, ↓e_isi, ↓e_yes, ↓e_bits, ↓e_bitsK, ↓e_cLast, ↓e_cLink, ↓e_cK, ↓e_cNext, ↓e_testCh, ↓e_addI, ↓e_addB, ↓e_addS, ↓e_addT, ↓e_addL, ↓e_subI, ↓e_mulI, ↓e_mulT, ↓e_mulL, ↓e_divI, ↓e_modI, ↓e_powI, ↓e_negI, ↓e_iadd, ↓e_cmpI, ↓e_eq, ↓e_ne, ↓e_isn, ↓e_isnn, ↓e_isb, ↓e_ixL, ↓e_ixKL, ↓e_ixT, ↓e_cutL, ↓e_cutKL, ↓e_cutT, ↓e_lenL, ↓e_lenKL, ↓e_lenT, ↓e_abs, ↓e_intI, ↓e_intB, ↓e_max2, ↓e_min2, ↓e_listL, ↓e_listT, ↓e_listNL, ↓e_listNT, ↓e_tupL, ↓e_tupT, ↓e_sum1T, ↓e_sum1L, ↓e_max1T, ↓e_max1L, ↓e_drI, ↓e_drB, ↓e_drS, ↓e_drN, ↓e_drL, ↓e_drT, ↓e_seq, ↓e_back, ↓e_backL, ↓e_backT, ↓e_sortedL, ↓e_sortedNL, ↓e_divmod, ↓e_lr1, ↓e_lr1K, ↓e_lr2, ↓e_lr2K, ↓e_lr3, ↓e_lr3K, ↓e_revR1, ↓e_revR1K, ↓e_srtSet, ↓e_unlL, ↓e_inL, ↓e_inKL, ↓e_inT, ↓e_inFlat, ↓e_drK, ↓e_srtSetL, ↓e_lenSet, ↓e_lenSetL, ↓e_enumF, ↓e_enumFT, ↓e_reprL, ↓e_reprT, ↓e_reprI, ↓e_reprB, ↓e_reprN, ↓e_reprS, ↓e_strI, ↓e_isub, ↓e_strB, ↓e_addBI, ↓e_subBI, ↓e_subIB, ↓e_drG, ↓e_dnew, ↓e_dgetF, ↓e_dget1, ↓e_dget2, ↓e_dsetdS, ↓e_dgPut, ↓e_lenSetZ, ↓e_lenSetZL, e_kyI, e_kyS, Nat.reduceAdd, Nat.zero_add, List.length_cons, List.length_nil, List.length_map, Nat.reduceLeDiff, and_true, true_and, if_true, ite_true, decide_eq_true_eq, Bool.not_eq_true, Bool.false_eq_true, if_false, ite_false, ↓reduceIte, Int.reduceToNat, Int.reducePow, ne_eq, q_okI, q_okB, q_okN, q_okS, q_okL, q_okT, q_oks0, q_oks1, q_eqII, q_eqBB, q_eqSS, q_eqLL, q_eqTT, q_eqNN, q_eqNI, q_eqIN, q_eqs0, q_eqs1, Bool.true_and, Bool.and_true, beq_iff_eq, reduceCtorEq, wipeE, List.set_cons_zero, List.set_cons_succ, List.set_nil, Bool.not_true, Bool.not_false, List.getElem?_cons_zero, List.getElem?_cons_succ, okDs_int])
  rw [eqDs_nil]
  have fin : ∀ cs : List Int, cs.length ≤ 3 → z2_law ⟨fun _ st' => kk .non st', fun d st' => kk d st'⟩ [some (.klst (ns.map D.int)), some (.lst (cs.map D.int)), none, none, none] [] := by
    intro cs hc
    simp only [z2_law]
    (try simp only [BEq.rfl, ↓e_v0, ↓e_vs, ↓e_c, ↓e_op, ↓e_un, ↓e_test, ↓e_testK, ↓e_tru, ↓e_truL, ↓e_truT, ↓e_truB, ↓e_truI, ↓e_truN, ↓e_truS, ↓e_not, ↓e_and, ↓e_or, ↓e_andv, ↓e_orv, ↓e_notv, ↓e_andK, ↓e_orK, ↓e_notK, ↓e_if, ↓e_nil, ↓e_cons, ↓e_tup, ↓e_lst, ↓e_new, ↓e_call, ↓e_callK, ↓e_drop, ↓e_ret, ↓e_retN, ↓e_pass, ↓e_ifS, ↓e_g0, ↓e_gs, ↓e_gnil, ↓e_gcons, ↓e_gtup, ↓e_asg, ↓e_par, ↓e_parK, ↓e_par3, ↓e_par3K, ↓e_chain, ↓e_chK, ↓e_no, ↓e_some, ↓e_someK, ↓e_cut, ↓e_b, ↓e_iter, ↓e_iterL, ↓e_iterT, ↓e_iterS, ↓e_rng1, ↓e_rng1K, ↓e_rng2, ↓e_rng2K, ↓e_rng3, ↓e_rng3K, ↓e_enum, ↓e_enumL, ↓e_enumT, ↓e_zip, ↓e_zipL, ↓e_zipT, ↓e_zipM, ↓e_zipMK, ↓e_zipS, ↓e_zipSK, ↓e_for, ↓e_lc, ↓e_lcNew, ↓e_meth, ↓e_isL, ↓e_sub, ↓e_aug, ↓e_augK, ↓e_isi, ↓e_yes, ↓e_bits, ↓e_bitsK, ↓e_cLast, ↓e_cLink, ↓e_cK, ↓e_cNext, ↓e_testCh, ↓e_addI, ↓e_addB, ↓e_addS, ↓e_addT, ↓e_addL, ↓e_subI, ↓e_mulI, ↓e_mulT, ↓e_mulL, ↓e_divI, ↓e_modI, ↓e_powI, ↓e_negI, ↓e_iadd, ↓e_cmpI, ↓e_eq, ↓e_ne, ↓e_isn, ↓e_isnn, ↓e_isb, ↓e_ixL, ↓e_ixKL, ↓e_ixT, ↓e_cutL, ↓e_cutKL, ↓e_cutT, ↓e_lenL, ↓e_lenKL, ↓e_lenT, ↓e_abs, ↓e_intI, ↓e_intB, ↓e_max2, ↓e_min2, ↓e_listL, ↓e_listT, ↓e_listNL, ↓e_listNT, ↓e_tupL, ↓e_tupT, ↓e_sum1T, ↓e_sum1L, ↓e_max1T, ↓e_max1L, ↓e_drI, ↓e_drB, ↓e_drS, ↓e_drN, ↓e_drL, ↓e_drT, ↓e_seq, ↓e_back, ↓e_backL, ↓e_backT, ↓e_sortedL, ↓e_sortedNL, ↓e_divmod, ↓e_lr1, ↓e_lr1K, ↓e_lr2, ↓e_lr2K, ↓e_lr3, ↓e_lr3K, ↓e_revR1, ↓e_revR1K, ↓e_srtSet, ↓e_unlL, ↓e_inL, ↓e_inKL, ↓e_inT, ↓e_inFlat, ↓e_drK, ↓e_srtSetL, ↓e_lenSet, ↓e_lenSetL, ↓e_enumF, ↓e_enumFT, ↓e_reprL, ↓e_reprT, ↓e_reprI, ↓e_reprB, ↓e_reprN, ↓e_reprS, ↓e_strI, ↓e_isub, ↓e_strB, ↓e_addBI, ↓e_subBI, ↓e_subIB, ↓e_drG, ↓e_dnew, ↓e_dgetF, ↓e_dget1, ↓e_dget2, ↓e_dsetdS, ↓e_dgPut, ↓e_lenSetZ, ↓e_lenSetZL, e_kyI, e_kyS, Nat.reduceAdd, Nat.zero_add, List.length_cons, List.length_nil, List.length_map, Nat.reduceLeDiff, and_true, true_and, if_true, ite_true, decide_eq_true_eq, Bool.not_eq_true, Bool.false_eq_true, if_false, ite_false, ↓reduceIte, Int.reduceToNat, Int.reducePow, ne_eq, q_okI, q_okB, q_okN, q_okS, q_okL, q_okT, q_oks0, q_oks1, q_eqII, q_eqBB, q_eqSS, q_eqLL, q_eqTT, q_eqNN, q_eqNI, q_eqIN, q_eqs0, q_eqs1, Bool.true_and, Bool.and_true, beq_iff_eq, reduceCtorEq, wipeE, List.set_cons_zero, List.set_cons_succ, List.set_nil, Bool.not_true, Bool.not_false, List.getElem?_cons_zero, List.getElem?_cons_succ])
    refine ⟨by (first | exact mulc _ _ (by decide) (by decide) | exact mulr _ _ (by decide) (by decide) | exact ⟨by decide, by decide, by decide⟩ | exact ⟨by decide, by decide⟩ | exact mulb _ _ | exact ⟨by omega, by omega⟩ | exact mulc _ _ (by omega) (by omega) | exact mulr _ _ (by omega) (by omega) | exact div_small (by omega) (by omega) | exact ⟨by omega, by omega, by omega⟩ | omega | decide), ?_⟩
    rw [natOf_range]
    refine go_for (fun j : Nat => D.int (j : Nat)) (fun r env s => (∀ j ∈ r, j < 1000) ∧ ∃ (v2 v3 v4 : Option D), env = [some (.klst (ns.map D.int)), some (.lst (cs.map D.int)), v2, v3, v4]) ?_ ?_ _ _ _ ⟨fun j hj => by have := List.mem_range.mp hj; omega, _, _, _, rfl⟩
    · rintro j r _ sx nx ⟨hr, v2, v3, v4, rfl⟩ q
      refine ⟨trivial, ?_⟩
      (try simp only [BEq.rfl, ↓e_v0, ↓e_vs, ↓e_c, ↓e_op, ↓e_un, ↓e_test, ↓e_testK, ↓e_tru, ↓e_truL, ↓e_truT, ↓e_truB, ↓e_truI, ↓e_truN, ↓e_truS, ↓e_not, ↓e_and, ↓e_or, ↓e_andv, ↓e_orv, ↓e_notv, ↓e_andK, ↓e_orK, ↓e_notK, ↓e_if, ↓e_nil, ↓e_cons, ↓e_tup, ↓e_lst, ↓e_new, ↓e_call, ↓e_callK, ↓e_drop, ↓e_ret, ↓e_retN, ↓e_pass, ↓e_ifS, ↓e_g0, ↓e_gs, ↓e_gnil, ↓e_gcons, ↓e_gtup, ↓e_asg, ↓e_par, ↓e_parK, ↓e_par3, ↓e_par3K, ↓e_chain, ↓e_chK, ↓e_no, ↓e_some, ↓e_someK, ↓e_cut, ↓e_b, ↓e_iter, ↓e_iterL, ↓e_iterT, ↓e_iterS, ↓e_rng1, ↓e_rng1K, ↓e_rng2, ↓e_rng2K, ↓e_rng3, ↓e_rng3K, ↓e_enum, ↓e_enumL, ↓e_enumT, ↓e_zip, ↓e_zipL, ↓e_zipT, ↓e_zipM, ↓e_zipMK, ↓e_zipS, ↓e_zipSK, ↓e_for, ↓e_lc, ↓e_lcNew, ↓e_forN, ↓e_forC, ↓e_lcN, ↓e_lcC, ↓e_srcN, ↓e_srcC, ↓e_meth, ↓e_isL, ↓e_sub, ↓e_aug, ↓e_augK, ↓e_isi, ↓e_yes, ↓e_bits, ↓e_bitsK, ↓e_cLast, ↓e_cLink, ↓e_cK, ↓e_cNext, ↓e_testCh, ↓e_addI, ↓e_addB, ↓e_addS, ↓e_addT, ↓e_addL, ↓e_subI, ↓e_mulI, ↓e_mulT, ↓e_mulL, ↓e_divI, ↓e_modI, ↓e_powI, ↓e_negI, ↓e_iadd, ↓e_cmpI, ↓e_eq, ↓e_ne, ↓e_isn, ↓e_isnn, ↓e_isb, ↓e_ixL, ↓e_ixKL, ↓e_ixT, ↓e_cutL, ↓e_cutKL, ↓e_cutT, ↓e_lenL, ↓e_lenKL, ↓e_lenT, ↓e_abs, ↓e_intI, ↓e_intB, ↓e_max2, ↓e_min2, ↓e_listL, ↓e_listT, ↓e_listNL, ↓e_listNT, ↓e_tupL, ↓e_tupT, ↓e_sum1T, ↓e_sum1L, ↓e_max1T, ↓e_max1L, ↓e_drI, ↓e_drB, ↓e_drS, ↓e_drN, ↓e_drL, ↓e_drT, ↓e_seq, ↓e_back, ↓e_backL, ↓e_backT, ↓e_sortedL, ↓e_sortedNL, ↓e_divmod, ↓e_lr1, ↓e_lr1K, ↓e_lr2, ↓e_lr2K, ↓e_lr3, ↓e_lr3K, ↓e_revR1, ↓e_revR1K, ↓e_srtSet, ↓e_unlL, ↓e_inL, ↓e_inKL, ↓e_inT, ↓e_inFlat, ↓e_drK, ↓e_srtSetL, ↓e_lenSet, ↓e_lenSetL, ↓e_enumF, ↓e_enumFT, ↓e_reprL, ↓e_reprT, ↓e_reprI, ↓e_reprB, ↓e_reprN, ↓e_reprS, ↓e_strI, ↓e_isub, ↓e_strB, ↓e_addBI, ↓e_subBI, ↓e_subIB, ↓e_drG, ↓e_dnew, ↓e_dgetF, ↓e_dget1, ↓e_dget2, ↓e_dsetdS, ↓e_dgPut, ↓e_lenSetZ, ↓e_lenSetZL, e_kyI, e_kyS, Nat.reduceAdd, Nat.zero_add, List.length_cons, List.length_nil, List.length_map, Nat.reduceLeDiff, and_true, true_and, if_true, ite_true, decide_eq_true_eq, Bool.not_eq_true, Bool.false_eq_true, if_false, ite_false, ↓reduceIte, Int.reduceToNat, Int.reducePow, ne_eq, q_okI, q_okB, q_okN, q_okS, q_okL, q_okT, q_oks0, q_oks1, q_eqII, q_eqBB, q_eqSS, q_eqLL, q_eqTT, q_eqNN, q_eqNI, q_eqIN, q_eqs0, q_eqs1, Bool.true_and, Bool.and_true, beq_iff_eq, reduceCtorEq, wipeE, List.set_cons_zero, List.set_cons_succ, List.set_nil, Bool.not_true, Bool.not_false, List.getElem?_cons_zero, List.getElem?_cons_succ])
      simp only [b2_law]
      (try simp only [BEq.rfl, ↓e_v0, ↓e_vs, ↓e_c, ↓e_op, ↓e_un, ↓e_test, ↓e_testK, ↓e_tru, ↓e_truL, ↓e_truT, ↓e_truB, ↓e_truI, ↓e_truN, ↓e_truS, ↓e_not, ↓e_and, ↓e_or, ↓e_andv, ↓e_orv, ↓e_notv, ↓e_andK, ↓e_orK, ↓e_notK, ↓e_if, ↓e_nil, ↓e_cons, ↓e_tup, ↓e_lst, ↓e_new, ↓e_call, ↓e_callK, ↓e_drop, ↓e_ret, ↓e_retN, ↓e_pass, ↓e_ifS, ↓e_g0, ↓e_gs, ↓e_gnil, ↓e_gcons, ↓e_gtup, ↓e_asg, ↓e_par, ↓e_parK, ↓e_par3, ↓e_par3K, ↓e_chain, ↓e_chK, ↓e_no, ↓e_some, ↓e_someK, ↓e_cut, ↓e_b, ↓e_iter, ↓e_iterL, ↓e_iterT, ↓e_iterS, ↓e_rng1, ↓e_rng1K, ↓e_rng2, ↓e_rng2K, ↓e_rng3, ↓e_rng3K, ↓e_enum, ↓e_enumL, ↓e_enumT, ↓e_zip, ↓e_zipL, ↓e_zipT, ↓e_zipM, ↓e_zipMK, ↓e_zipS, ↓e_zipSK, ↓e_for, ↓e_lc, ↓e_lcNew, ↓e_forN, ↓e_forC, ↓e_lcN, ↓e_lcC, ↓e_srcN, ↓e_srcC, ↓e_meth, ↓e_isL, ↓e_sub, ↓e_aug, ↓e_augK, ↓e_isi, ↓e_yes, ↓e_bits, ↓e_bitsK, ↓e_cLast, ↓e_cLink, ↓e_cK, ↓e_cNext, ↓e_testCh, ↓e_addI, ↓e_addB, ↓e_addS, ↓e_addT, ↓e_addL, ↓e_subI, ↓e_mulI, ↓e_mulT, ↓e_mulL, ↓e_divI, ↓e_modI, ↓e_powI, ↓e_negI, ↓e_iadd, ↓e_cmpI, ↓e_eq, ↓e_ne, ↓e_isn, ↓e_isnn, ↓e_isb, ↓e_ixL, ↓e_ixKL, ↓e_ixT, ↓e_cutL, ↓e_cutKL, ↓e_cutT, ↓e_lenL, ↓e_lenKL, ↓e_lenT, ↓e_abs, ↓e_intI, ↓e_intB, ↓e_max2, ↓e_min2, ↓e_listL, ↓e_listT, ↓e_listNL, ↓e_listNT, ↓e_tupL, ↓e_tupT, ↓e_sum1T, ↓e_sum1L, ↓e_max1T, ↓e_max1L, ↓e_drI, ↓e_drB, ↓e_drS, ↓e_drN, ↓e_drL, ↓e_drT, ↓e_seq, ↓e_back, ↓e_backL, ↓e_backT, ↓e_sortedL, ↓e_sortedNL, ↓e_divmod, ↓e_lr1, ↓e_lr1K, ↓e_lr2, ↓e_lr2K, ↓e_lr3, ↓e_lr3K, ↓e_revR1, ↓e_revR1K, ↓e_srtSet, ↓e_unlL, ↓e_inL, ↓e_inKL, ↓e_inT, ↓e_inFlat, ↓e_drK, ↓e_srtSetL, ↓e_lenSet, ↓e_lenSetL, ↓e_enumF, ↓e_enumFT, ↓e_reprL, ↓e_reprT, ↓e_reprI, ↓e_reprB, ↓e_reprN, ↓e_reprS, ↓e_strI, ↓e_isub, ↓e_strB, ↓e_addBI, ↓e_subBI, ↓e_subIB, ↓e_drG, ↓e_dnew, ↓e_dgetF, ↓e_dget1, ↓e_dget2, ↓e_dsetdS, ↓e_dgPut, ↓e_lenSetZ, ↓e_lenSetZL, e_kyI, e_kyS, Nat.reduceAdd, Nat.zero_add, List.length_cons, List.length_nil, List.length_map, Nat.reduceLeDiff, and_true, true_and, if_true, ite_true, decide_eq_true_eq, Bool.not_eq_true, Bool.false_eq_true, if_false, ite_false, ↓reduceIte, Int.reduceToNat, Int.reducePow, ne_eq, q_okI, q_okB, q_okN, q_okS, q_okL, q_okT, q_oks0, q_oks1, q_eqII, q_eqBB, q_eqSS, q_eqLL, q_eqTT, q_eqNN, q_eqNI, q_eqIN, q_eqs0, q_eqs1, Bool.true_and, Bool.and_true, beq_iff_eq, reduceCtorEq, wipeE, List.set_cons_zero, List.set_cons_succ, List.set_nil, Bool.not_true, Bool.not_false, List.getElem?_cons_zero, List.getElem?_cons_succ])
      refine ⟨cs, j, rfl, by have := hr j List.mem_cons_self; omega, fun xs hx => ?_⟩
      simp only [z4_law]
      (try simp only [BEq.rfl, ↓e_v0, ↓e_vs, ↓e_c, ↓e_op, ↓e_un, ↓e_test, ↓e_testK, ↓e_tru, ↓e_truL, ↓e_truT, ↓e_truB, ↓e_truI, ↓e_truN, ↓e_truS, ↓e_not, ↓e_and, ↓e_or, ↓e_andv, ↓e_orv, ↓e_notv, ↓e_andK, ↓e_orK, ↓e_notK, ↓e_if, ↓e_nil, ↓e_cons, ↓e_tup, ↓e_lst, ↓e_new, ↓e_call, ↓e_callK, ↓e_drop, ↓e_ret, ↓e_retN, ↓e_pass, ↓e_ifS, ↓e_g0, ↓e_gs, ↓e_gnil, ↓e_gcons, ↓e_gtup, ↓e_asg, ↓e_par, ↓e_parK, ↓e_par3, ↓e_par3K, ↓e_chain, ↓e_chK, ↓e_no, ↓e_some, ↓e_someK, ↓e_cut, ↓e_b, ↓e_iter, ↓e_iterL, ↓e_iterT, ↓e_iterS, ↓e_rng1, ↓e_rng1K, ↓e_rng2, ↓e_rng2K, ↓e_rng3, ↓e_rng3K, ↓e_enum, ↓e_enumL, ↓e_enumT, ↓e_zip, ↓e_zipL, ↓e_zipT, ↓e_zipM, ↓e_zipMK, ↓e_zipS, ↓e_zipSK, ↓e_for, ↓e_lc, ↓e_lcNew, ↓e_meth, ↓e_isL, ↓e_sub, ↓e_aug, ↓e_augK, ↓e_isi, ↓e_yes, ↓e_bits, ↓e_bitsK, ↓e_cLast, ↓e_cLink, ↓e_cK, ↓e_cNext, ↓e_testCh, ↓e_addI, ↓e_addB, ↓e_addS, ↓e_addT, ↓e_addL, ↓e_subI, ↓e_mulI, ↓e_mulT, ↓e_mulL, ↓e_divI, ↓e_modI, ↓e_powI, ↓e_negI, ↓e_iadd, ↓e_cmpI, ↓e_eq, ↓e_ne, ↓e_isn, ↓e_isnn, ↓e_isb, ↓e_ixL, ↓e_ixKL, ↓e_ixT, ↓e_cutL, ↓e_cutKL, ↓e_cutT, ↓e_lenL, ↓e_lenKL, ↓e_lenT, ↓e_abs, ↓e_intI, ↓e_intB, ↓e_max2, ↓e_min2, ↓e_listL, ↓e_listT, ↓e_listNL, ↓e_listNT, ↓e_tupL, ↓e_tupT, ↓e_sum1T, ↓e_sum1L, ↓e_max1T, ↓e_max1L, ↓e_drI, ↓e_drB, ↓e_drS, ↓e_drN, ↓e_drL, ↓e_drT, ↓e_seq, ↓e_back, ↓e_backL, ↓e_backT, ↓e_sortedL, ↓e_sortedNL, ↓e_divmod, ↓e_lr1, ↓e_lr1K, ↓e_lr2, ↓e_lr2K, ↓e_lr3, ↓e_lr3K, ↓e_revR1, ↓e_revR1K, ↓e_srtSet, ↓e_unlL, ↓e_inL, ↓e_inKL, ↓e_inT, ↓e_inFlat, ↓e_drK, ↓e_srtSetL, ↓e_lenSet, ↓e_lenSetL, ↓e_enumF, ↓e_enumFT, ↓e_reprL, ↓e_reprT, ↓e_reprI, ↓e_reprB, ↓e_reprN, ↓e_reprS, ↓e_strI, ↓e_isub, ↓e_strB, ↓e_addBI, ↓e_subBI, ↓e_subIB, ↓e_drG, ↓e_dnew, ↓e_dgetF, ↓e_dget1, ↓e_dget2, ↓e_dsetdS, ↓e_dgPut, ↓e_lenSetZ, ↓e_lenSetZL, e_kyI, e_kyS, Nat.reduceAdd, Nat.zero_add, List.length_cons, List.length_nil, List.length_map, Nat.reduceLeDiff, and_true, true_and, if_true, ite_true, decide_eq_true_eq, Bool.not_eq_true, Bool.false_eq_true, if_false, ite_false, ↓reduceIte, Int.reduceToNat, Int.reducePow, ne_eq, q_okI, q_okB, q_okN, q_okS, q_okL, q_okT, q_oks0, q_oks1, q_eqII, q_eqBB, q_eqSS, q_eqLL, q_eqTT, q_eqNN, q_eqNI, q_eqIN, q_eqs0, q_eqs1, Bool.true_and, Bool.and_true, beq_iff_eq, reduceCtorEq, wipeE, List.set_cons_zero, List.set_cons_succ, List.set_nil, Bool.not_true, Bool.not_false, List.getElem?_cons_zero, List.getElem?_cons_succ])
      refine ⟨by (first | exact mulc _ _ (by decide) (by decide) | exact mulr _ _ (by decide) (by decide) | exact ⟨by decide, by decide, by decide⟩ | exact ⟨by decide, by decide⟩ | exact mulb _ _ | exact ⟨by omega, by omega⟩ | exact mulc _ _ (by omega) (by omega) | exact mulr _ _ (by omega) (by omega) | exact div_small (by omega) (by omega) | exact ⟨by omega, by omega, by omega⟩ | omega | decide), ?_⟩
      refine go_range 4 (fun t env s => Tp sx.length (9000 * t) s ∧ ∃ (v2 v4 : Option D), env = [some (.klst (ns.map D.int)), some (.lst (cs.map D.int)), v2, some (.obj sx.length), v4]) ?_ ?_ _ _ ⟨⟨xs, app_get, hx⟩, _, _, rfl⟩
      · rintro t _ sy ny lt ⟨ht, v2, v4, rfl⟩ q2
        refine ⟨trivial, ?_⟩
        (try simp only [BEq.rfl, ↓e_v0, ↓e_vs, ↓e_c, ↓e_op, ↓e_un, ↓e_test, ↓e_testK, ↓e_tru, ↓e_truL, ↓e_truT, ↓e_truB, ↓e_truI, ↓e_truN, ↓e_truS, ↓e_not, ↓e_and, ↓e_or, ↓e_andv, ↓e_orv, ↓e_notv, ↓e_andK, ↓e_orK, ↓e_notK, ↓e_if, ↓e_nil, ↓e_cons, ↓e_tup, ↓e_lst, ↓e_new, ↓e_call, ↓e_callK, ↓e_drop, ↓e_ret, ↓e_retN, ↓e_pass, ↓e_ifS, ↓e_g0, ↓e_gs, ↓e_gnil, ↓e_gcons, ↓e_gtup, ↓e_asg, ↓e_par, ↓e_parK, ↓e_par3, ↓e_par3K, ↓e_chain, ↓e_chK, ↓e_no, ↓e_some, ↓e_someK, ↓e_cut, ↓e_b, ↓e_iter, ↓e_iterL, ↓e_iterT, ↓e_iterS, ↓e_rng1, ↓e_rng1K, ↓e_rng2, ↓e_rng2K, ↓e_rng3, ↓e_rng3K, ↓e_enum, ↓e_enumL, ↓e_enumT, ↓e_zip, ↓e_zipL, ↓e_zipT, ↓e_zipM, ↓e_zipMK, ↓e_zipS, ↓e_zipSK, ↓e_for, ↓e_lc, ↓e_lcNew, ↓e_meth, ↓e_isL, ↓e_sub, ↓e_aug, ↓e_augK, ↓e_isi, ↓e_yes, ↓e_bits, ↓e_bitsK, ↓e_cLast, ↓e_cLink, ↓e_cK, ↓e_cNext, ↓e_testCh, ↓e_addI, ↓e_addB, ↓e_addS, ↓e_addT, ↓e_addL, ↓e_subI, ↓e_mulI, ↓e_mulT, ↓e_mulL, ↓e_divI, ↓e_modI, ↓e_powI, ↓e_negI, ↓e_iadd, ↓e_cmpI, ↓e_eq, ↓e_ne, ↓e_isn, ↓e_isnn, ↓e_isb, ↓e_ixL, ↓e_ixKL, ↓e_ixT, ↓e_cutL, ↓e_cutKL, ↓e_cutT, ↓e_lenL, ↓e_lenKL, ↓e_lenT, ↓e_abs, ↓e_intI, ↓e_intB, ↓e_max2, ↓e_min2, ↓e_listL, ↓e_listT, ↓e_listNL, ↓e_listNT, ↓e_tupL, ↓e_tupT, ↓e_sum1T, ↓e_sum1L, ↓e_max1T, ↓e_max1L, ↓e_drI, ↓e_drB, ↓e_drS, ↓e_drN, ↓e_drL, ↓e_drT, ↓e_seq, ↓e_back, ↓e_backL, ↓e_backT, ↓e_sortedL, ↓e_sortedNL, ↓e_divmod, ↓e_lr1, ↓e_lr1K, ↓e_lr2, ↓e_lr2K, ↓e_lr3, ↓e_lr3K, ↓e_revR1, ↓e_revR1K, ↓e_srtSet, ↓e_unlL, ↓e_inL, ↓e_inKL, ↓e_inT, ↓e_inFlat, ↓e_drK, ↓e_srtSetL, ↓e_lenSet, ↓e_lenSetL, ↓e_enumF, ↓e_enumFT, ↓e_reprL, ↓e_reprT, ↓e_reprI, ↓e_reprB, ↓e_reprN, ↓e_reprS, ↓e_strI, ↓e_isub, ↓e_strB, ↓e_addBI, ↓e_subBI, ↓e_subIB, ↓e_drG, ↓e_dnew, ↓e_dgetF, ↓e_dget1, ↓e_dget2, ↓e_dsetdS, ↓e_dgPut, ↓e_lenSetZ, ↓e_lenSetZL, e_kyI, e_kyS, Nat.reduceAdd, Nat.zero_add, List.length_cons, List.length_nil, List.length_map, Nat.reduceLeDiff, and_true, true_and, if_true, ite_true, decide_eq_true_eq, Bool.not_eq_true, Bool.false_eq_true, if_false, ite_false, ↓reduceIte, Int.reduceToNat, Int.reducePow, ne_eq, q_okI, q_okB, q_okN, q_okS, q_okL, q_okT, q_oks0, q_oks1, q_eqII, q_eqBB, q_eqSS, q_eqLL, q_eqTT, q_eqNN, q_eqNI, q_eqIN, q_eqs0, q_eqs1, Bool.true_and, Bool.and_true, beq_iff_eq, reduceCtorEq, wipeE, List.set_cons_zero, List.set_cons_succ, List.set_nil, Bool.not_true, Bool.not_false, List.getElem?_cons_zero, List.getElem?_cons_succ])
        simp only [b1_law]
        (try simp only [BEq.rfl, ↓e_v0, ↓e_vs, ↓e_c, ↓e_op, ↓e_un, ↓e_test, ↓e_testK, ↓e_tru, ↓e_truL, ↓e_truT, ↓e_truB, ↓e_truI, ↓e_truN, ↓e_truS, ↓e_not, ↓e_and, ↓e_or, ↓e_andv, ↓e_orv, ↓e_notv, ↓e_andK, ↓e_orK, ↓e_notK, ↓e_if, ↓e_nil, ↓e_cons, ↓e_tup, ↓e_lst, ↓e_new, ↓e_call, ↓e_callK, ↓e_drop, ↓e_ret, ↓e_retN, ↓e_pass, ↓e_ifS, ↓e_g0, ↓e_gs, ↓e_gnil, ↓e_gcons, ↓e_gtup, ↓e_asg, ↓e_par, ↓e_parK, ↓e_par3, ↓e_par3K, ↓e_chain, ↓e_chK, ↓e_no, ↓e_some, ↓e_someK, ↓e_cut, ↓e_b, ↓e_iter, ↓e_iterL, ↓e_iterT, ↓e_iterS, ↓e_rng1, ↓e_rng1K, ↓e_rng2, ↓e_rng2K, ↓e_rng3, ↓e_rng3K, ↓e_enum, ↓e_enumL, ↓e_enumT, ↓e_zip, ↓e_zipL, ↓e_zipT, ↓e_zipM, ↓e_zipMK, ↓e_zipS, ↓e_zipSK, ↓e_for, ↓e_lc, ↓e_lcNew, ↓e_meth, ↓e_isL, ↓e_sub, ↓e_aug, ↓e_augK, ↓e_isi, ↓e_yes, ↓e_bits, ↓e_bitsK, ↓e_cLast, ↓e_cLink, ↓e_cK, ↓e_cNext, ↓e_testCh, ↓e_addI, ↓e_addB, ↓e_addS, ↓e_addT, ↓e_addL, ↓e_subI, ↓e_mulI, ↓e_mulT, ↓e_mulL, ↓e_divI, ↓e_modI, ↓e_powI, ↓e_negI, ↓e_iadd, ↓e_cmpI, ↓e_eq, ↓e_ne, ↓e_isn, ↓e_isnn, ↓e_isb, ↓e_ixL, ↓e_ixKL, ↓e_ixT, ↓e_cutL, ↓e_cutKL, ↓e_cutT, ↓e_lenL, ↓e_lenKL, ↓e_lenT, ↓e_abs, ↓e_intI, ↓e_intB, ↓e_max2, ↓e_min2, ↓e_listL, ↓e_listT, ↓e_listNL, ↓e_listNT, ↓e_tupL, ↓e_tupT, ↓e_sum1T, ↓e_sum1L, ↓e_max1T, ↓e_max1L, ↓e_drI, ↓e_drB, ↓e_drS, ↓e_drN, ↓e_drL, ↓e_drT, ↓e_seq, ↓e_back, ↓e_backL, ↓e_backT, ↓e_sortedL, ↓e_sortedNL, ↓e_divmod, ↓e_lr1, ↓e_lr1K, ↓e_lr2, ↓e_lr2K, ↓e_lr3, ↓e_lr3K, ↓e_revR1, ↓e_revR1K, ↓e_srtSet, ↓e_unlL, ↓e_inL, ↓e_inKL, ↓e_inT, ↓e_inFlat, ↓e_drK, ↓e_srtSetL, ↓e_lenSet, ↓e_lenSetL, ↓e_enumF, ↓e_enumFT, ↓e_reprL, ↓e_reprT, ↓e_reprI, ↓e_reprB, ↓e_reprN, ↓e_reprS, ↓e_strI, ↓e_isub, ↓e_strB, ↓e_addBI, ↓e_subBI, ↓e_subIB, ↓e_drG, ↓e_dnew, ↓e_dgetF, ↓e_dget1, ↓e_dget2, ↓e_dsetdS, ↓e_dgPut, ↓e_lenSetZ, ↓e_lenSetZL, e_kyI, e_kyS, Nat.reduceAdd, Nat.zero_add, List.length_cons, List.length_nil, List.length_map, Nat.reduceLeDiff, and_true, true_and, if_true, ite_true, decide_eq_true_eq, Bool.not_eq_true, Bool.false_eq_true, if_false, ite_false, ↓reduceIte, Int.reduceToNat, Int.reducePow, ne_eq, q_okI, q_okB, q_okN, q_okS, q_okL, q_okT, q_oks0, q_oks1, q_eqII, q_eqBB, q_eqSS, q_eqLL, q_eqTT, q_eqNN, q_eqNI, q_eqIN, q_eqs0, q_eqs1, Bool.true_and, Bool.and_true, beq_iff_eq, reduceCtorEq, wipeE, List.set_cons_zero, List.set_cons_succ, List.set_nil, Bool.not_true, Bool.not_false, List.getElem?_cons_zero, List.getElem?_cons_succ])
        refine ⟨_, _, 8, rfl, ht, by omega, by (first | exact mulc _ _ (by decide) (by decide) | exact mulr _ _ (by decide) (by decide) | exact ⟨by decide, by decide, by decide⟩ | exact ⟨by decide, by decide⟩ | exact mulb _ _ | exact ⟨by omega, by omega⟩ | exact mulc _ _ (by omega) (by omega) | exact mulr _ _ (by omega) (by omega) | exact div_small (by omega) (by omega) | exact ⟨by omega, by omega, by omega⟩ | omega | decide), fun y x1 y0 y1 t1 => ?_⟩
        (try simp only [BEq.rfl, ↓e_v0, ↓e_vs, ↓e_c, ↓e_op, ↓e_un, ↓e_test, ↓e_testK, ↓e_tru, ↓e_truL, ↓e_truT, ↓e_truB, ↓e_truI, ↓e_truN, ↓e_truS, ↓e_not, ↓e_and, ↓e_or, ↓e_andv, ↓e_orv, ↓e_notv, ↓e_andK, ↓e_orK, ↓e_notK, ↓e_if, ↓e_nil, ↓e_cons, ↓e_tup, ↓e_lst, ↓e_new, ↓e_call, ↓e_callK, ↓e_drop, ↓e_ret, ↓e_retN, ↓e_pass, ↓e_ifS, ↓e_g0, ↓e_gs, ↓e_gnil, ↓e_gcons, ↓e_gtup, ↓e_asg, ↓e_par, ↓e_parK, ↓e_par3, ↓e_par3K, ↓e_chain, ↓e_chK, ↓e_no, ↓e_some, ↓e_someK, ↓e_cut, ↓e_b, ↓e_iter, ↓e_iterL, ↓e_iterT, ↓e_iterS, ↓e_rng1, ↓e_rng1K, ↓e_rng2, ↓e_rng2K, ↓e_rng3, ↓e_rng3K, ↓e_enum, ↓e_enumL, ↓e_enumT, ↓e_zip, ↓e_zipL, ↓e_zipT, ↓e_zipM, ↓e_zipMK, ↓e_zipS, ↓e_zipSK, ↓e_for, ↓e_lc, ↓e_lcNew, ↓e_meth, ↓e_isL, ↓e_sub, ↓e_aug, ↓e_augK, ↓e_isi, ↓e_yes, ↓e_bits, ↓e_bitsK, ↓e_cLast, ↓e_cLink, ↓e_cK, ↓e_cNext, ↓e_testCh, ↓e_addI, ↓e_addB, ↓e_addS, ↓e_addT, ↓e_addL, ↓e_subI, ↓e_mulI, ↓e_mulT, ↓e_mulL, ↓e_divI, ↓e_modI, ↓e_powI, ↓e_negI, ↓e_iadd, ↓e_cmpI, ↓e_eq, ↓e_ne, ↓e_isn, ↓e_isnn, ↓e_isb, ↓e_ixL, ↓e_ixKL, ↓e_ixT, ↓e_cutL, ↓e_cutKL, ↓e_cutT, ↓e_lenL, ↓e_lenKL, ↓e_lenT, ↓e_abs, ↓e_intI, ↓e_intB, ↓e_max2, ↓e_min2, ↓e_listL, ↓e_listT, ↓e_listNL, ↓e_listNT, ↓e_tupL, ↓e_tupT, ↓e_sum1T, ↓e_sum1L, ↓e_max1T, ↓e_max1L, ↓e_drI, ↓e_drB, ↓e_drS, ↓e_drN, ↓e_drL, ↓e_drT, ↓e_seq, ↓e_back, ↓e_backL, ↓e_backT, ↓e_sortedL, ↓e_sortedNL, ↓e_divmod, ↓e_lr1, ↓e_lr1K, ↓e_lr2, ↓e_lr2K, ↓e_lr3, ↓e_lr3K, ↓e_revR1, ↓e_revR1K, ↓e_srtSet, ↓e_unlL, ↓e_inL, ↓e_inKL, ↓e_inT, ↓e_inFlat, ↓e_drK, ↓e_srtSetL, ↓e_lenSet, ↓e_lenSetL, ↓e_enumF, ↓e_enumFT, ↓e_reprL, ↓e_reprT, ↓e_reprI, ↓e_reprB, ↓e_reprN, ↓e_reprS, ↓e_strI, ↓e_isub, ↓e_strB, ↓e_addBI, ↓e_subBI, ↓e_subIB, ↓e_drG, ↓e_dnew, ↓e_dgetF, ↓e_dget1, ↓e_dget2, ↓e_dsetdS, ↓e_dgPut, ↓e_lenSetZ, ↓e_lenSetZL, e_kyI, e_kyS, Nat.reduceAdd, Nat.zero_add, List.length_cons, List.length_nil, List.length_map, Nat.reduceLeDiff, and_true, true_and, if_true, ite_true, decide_eq_true_eq, Bool.not_eq_true, Bool.false_eq_true, if_false, ite_false, ↓reduceIte, Int.reduceToNat, Int.reducePow, ne_eq, q_okI, q_okB, q_okN, q_okS, q_okL, q_okT, q_oks0, q_oks1, q_eqII, q_eqBB, q_eqSS, q_eqLL, q_eqTT, q_eqNN, q_eqNI, q_eqIN, q_eqs0, q_eqs1, Bool.true_and, Bool.and_true, beq_iff_eq, reduceCtorEq, wipeE, List.set_cons_zero, List.set_cons_succ, List.set_nil, Bool.not_true, Bool.not_false, List.getElem?_cons_zero, List.getElem?_cons_succ])
        refine ⟨_, _, 1 + y, rfl, t1, by omega, by omega, by omega, fun x2 t2 => ?_⟩
        (try simp only [BEq.rfl, ↓e_v0, ↓e_vs, ↓e_c, ↓e_op, ↓e_un, ↓e_test, ↓e_testK, ↓e_tru, ↓e_truL, ↓e_truT, ↓e_truB, ↓e_truI, ↓e_truN, ↓e_truS, ↓e_not, ↓e_and, ↓e_or, ↓e_andv, ↓e_orv, ↓e_notv, ↓e_andK, ↓e_orK, ↓e_notK, ↓e_if, ↓e_nil, ↓e_cons, ↓e_tup, ↓e_lst, ↓e_new, ↓e_call, ↓e_callK, ↓e_drop, ↓e_ret, ↓e_retN, ↓e_pass, ↓e_ifS, ↓e_g0, ↓e_gs, ↓e_gnil, ↓e_gcons, ↓e_gtup, ↓e_asg, ↓e_par, ↓e_parK, ↓e_par3, ↓e_par3K, ↓e_chain, ↓e_chK, ↓e_no, ↓e_some, ↓e_someK, ↓e_cut, ↓e_b, ↓e_iter, ↓e_iterL, ↓e_iterT, ↓e_iterS, ↓e_rng1, ↓e_rng1K, ↓e_rng2, ↓e_rng2K, ↓e_rng3, ↓e_rng3K, ↓e_enum, ↓e_enumL, ↓e_enumT, ↓e_zip, ↓e_zipL, ↓e_zipT, ↓e_zipM, ↓e_zipMK, ↓e_zipS, ↓e_zipSK, ↓e_for, ↓e_lc, ↓e_lcNew, ↓e_meth, ↓e_isL, ↓e_sub, ↓e_aug, ↓e_augK, ↓e_isi, ↓e_yes, ↓e_bits, ↓e_bitsK, ↓e_cLast, ↓e_cLink, ↓e_cK, ↓e_cNext, ↓e_testCh, ↓e_addI, ↓e_addB, ↓e_addS, ↓e_addT, ↓e_addL, ↓e_subI, ↓e_mulI, ↓e_mulT, ↓e_mulL, ↓e_divI, ↓e_modI, ↓e_powI, ↓e_negI, ↓e_iadd, ↓e_cmpI, ↓e_eq, ↓e_ne, ↓e_isn, ↓e_isnn, ↓e_isb, ↓e_ixL, ↓e_ixKL, ↓e_ixT, ↓e_cutL, ↓e_cutKL, ↓e_cutT, ↓e_lenL, ↓e_lenKL, ↓e_lenT, ↓e_abs, ↓e_intI, ↓e_intB, ↓e_max2, ↓e_min2, ↓e_listL, ↓e_listT, ↓e_listNL, ↓e_listNT, ↓e_tupL, ↓e_tupT, ↓e_sum1T, ↓e_sum1L, ↓e_max1T, ↓e_max1L, ↓e_drI, ↓e_drB, ↓e_drS, ↓e_drN, ↓e_drL, ↓e_drT, ↓e_seq, ↓e_back, ↓e_backL, ↓e_backT, ↓e_sortedL, ↓e_sortedNL, ↓e_divmod, ↓e_lr1, ↓e_lr1K, ↓e_lr2, ↓e_lr2K, ↓e_lr3, ↓e_lr3K, ↓e_revR1, ↓e_revR1K, ↓e_srtSet, ↓e_unlL, ↓e_inL, ↓e_inKL, ↓e_inT, ↓e_inFlat, ↓e_drK, ↓e_srtSetL, ↓e_lenSet, ↓e_lenSetL, ↓e_enumF, ↓e_enumFT, ↓e_reprL, ↓e_reprT, ↓e_reprI, ↓e_reprB, ↓e_reprN, ↓e_reprS, ↓e_strI, ↓e_isub, ↓e_strB, ↓e_addBI, ↓e_subBI, ↓e_subIB, ↓e_drG, ↓e_dnew, ↓e_dgetF, ↓e_dget1, ↓e_dget2, ↓e_dsetdS, ↓e_dgPut, ↓e_lenSetZ, ↓e_lenSetZL, e_kyI, e_kyS, Nat.reduceAdd, Nat.zero_add, List.length_cons, List.length_nil, List.length_map, Nat.reduceLeDiff, and_true, true_and, if_true, ite_true, decide_eq_true_eq, Bool.not_eq_true, Bool.false_eq_true, if_false, ite_false, ↓reduceIte, Int.reduceToNat, Int.reducePow, ne_eq, q_okI, q_okB, q_okN, q_okS, q_okL, q_okT, q_oks0, q_oks1, q_eqII, q_eqBB, q_eqSS, q_eqLL, q_eqTT, q_eqNN, q_eqNI, q_eqIN, q_eqs0, q_eqs1, Bool.true_and, Bool.and_true, beq_iff_eq, reduceCtorEq, wipeE, List.set_cons_zero, List.set_cons_succ, List.set_nil, Bool.not_true, Bool.not_false, List.getElem?_cons_zero, List.getElem?_cons_succ])
        exact q2 _ _ ⟨t2.mono (by omega), _, _, rfl⟩
      · rintro _ sy ⟨ht, v2, v4, rfl⟩
        refine ⟨trivial, ?_⟩
        exact q _ _ ⟨fun i hi => hr i (List.mem_cons_of_mem _ hi), _, _, _, rfl⟩
    · rintro _ sx ⟨hr, v2, v3, v4, rfl⟩
      refine ⟨trivial, ?_⟩
      simp only [z7_law]
      (try simp only [BEq.rfl, ↓e_v0, ↓e_vs, ↓e_c, ↓e_op, ↓e_un, ↓e_test, ↓e_testK, ↓e_tru, ↓e_truL, ↓e_truT, ↓e_truB, ↓e_truI, ↓e_truN, ↓e_truS, ↓e_not, ↓e_and, ↓e_or, ↓e_andv, ↓e_orv, ↓e_notv, ↓e_andK, ↓e_orK, ↓e_notK, ↓e_if, ↓e_nil, ↓e_cons, ↓e_tup, ↓e_lst, ↓e_new, ↓e_call, ↓e_callK, ↓e_drop, ↓e_ret, ↓e_retN, ↓e_pass, ↓e_ifS, ↓e_g0, ↓e_gs, ↓e_gnil, ↓e_gcons, ↓e_gtup, ↓e_asg, ↓e_par, ↓e_parK, ↓e_par3, ↓e_par3K, ↓e_chain, ↓e_chK, ↓e_no, ↓e_some, ↓e_someK, ↓e_cut, ↓e_b, ↓e_iter, ↓e_iterL, ↓e_iterT, ↓e_iterS, ↓e_rng1, ↓e_rng1K, ↓e_rng2, ↓e_rng2K, ↓e_rng3, ↓e_rng3K, ↓e_enum, ↓e_enumL, ↓e_enumT, ↓e_zip, ↓e_zipL, ↓e_zipT, ↓e_zipM, ↓e_zipMK, ↓e_zipS, ↓e_zipSK, ↓e_for, ↓e_lc, ↓e_lcNew, ↓e_forN, ↓e_forC, ↓e_lcN, ↓e_lcC, ↓e_srcN, ↓e_srcC, ↓e_meth, ↓e_isL, ↓e_sub, ↓e_aug, ↓e_augK, ↓e_isi, ↓e_yes, ↓e_bits, ↓e_bitsK, ↓e_cLast, ↓e_cLink, ↓e_cK, ↓e_cNext, ↓e_testCh, ↓e_addI, ↓e_addB, ↓e_addS, ↓e_addT, ↓e_addL, ↓e_subI, ↓e_mulI, ↓e_mulT, ↓e_mulL, ↓e_divI, ↓e_modI, ↓e_powI, ↓e_negI, ↓e_iadd, ↓e_cmpI, ↓e_eq, ↓e_ne, ↓e_isn, ↓e_isnn, ↓e_isb, ↓e_ixL, ↓e_ixKL, ↓e_ixT, ↓e_cutL, ↓e_cutKL, ↓e_cutT, ↓e_lenL, ↓e_lenKL, ↓e_lenT, ↓e_abs, ↓e_intI, ↓e_intB, ↓e_max2, ↓e_min2, ↓e_listL, ↓e_listT, ↓e_listNL, ↓e_listNT, ↓e_tupL, ↓e_tupT, ↓e_sum1T, ↓e_sum1L, ↓e_max1T, ↓e_max1L, ↓e_drI, ↓e_drB, ↓e_drS, ↓e_drN, ↓e_drL, ↓e_drT, ↓e_seq, ↓e_back, ↓e_backL, ↓e_backT, ↓e_sortedL, ↓e_sortedNL, ↓e_divmod, ↓e_lr1, ↓e_lr1K, ↓e_lr2, ↓e_lr2K, ↓e_lr3, ↓e_lr3K, ↓e_revR1, ↓e_revR1K, ↓e_srtSet, ↓e_unlL, ↓e_inL, ↓e_inKL, ↓e_inT, ↓e_inFlat, ↓e_drK, ↓e_srtSetL, ↓e_lenSet, ↓e_lenSetL, ↓e_enumF, ↓e_enumFT, ↓e_reprL, ↓e_reprT, ↓e_reprI, ↓e_reprB, ↓e_reprN, ↓e_reprS, ↓e_strI, ↓e_isub, ↓e_strB, ↓e_addBI, ↓e_subBI, ↓e_subIB, ↓e_drG, ↓e_dnew, ↓e_dgetF, ↓e_dget1, ↓e_dget2, ↓e_dsetdS, ↓e_dgPut, ↓e_lenSetZ, ↓e_lenSetZL, e_kyI, e_kyS, Nat.reduceAdd, Nat.zero_add, List.length_cons, List.length_nil, List.length_map, Nat.reduceLeDiff, and_true, true_and, if_true, ite_true, decide_eq_true_eq, Bool.not_eq_true, Bool.false_eq_true, if_false, ite_false, ↓reduceIte, Int.reduceToNat, Int.reducePow, ne_eq, q_okI, q_okB, q_okN, q_okS, q_okL, q_okT, q_oks0, q_oks1, q_eqII, q_eqBB, q_eqSS, q_eqLL, q_eqTT, q_eqNN, q_eqNI, q_eqIN, q_eqs0, q_eqs1, Bool.true_and, Bool.and_true, beq_iff_eq, reduceCtorEq, wipeE, List.set_cons_zero, List.set_cons_succ, List.set_nil, Bool.not_true, Bool.not_false, List.getElem?_cons_zero, List.getElem?_cons_succ])
      exact h sx
  by_cases e : ns = []
  · rw [if_neg (by simp [e])]
    exact fin [0] (by decide)
  · rw [if_pos (by simp [e])]
    refine ⟨ns, 3, rfl, by decide, by decide, h1, fun cs hc => ?_⟩
    (try simp only [BEq.rfl, ↓e_v0, ↓e_vs, ↓e_c, ↓e_op, ↓e_un, ↓e_test, ↓e_testK, ↓e_tru, ↓e_truL, ↓e_truT, ↓e_truB, ↓e_truI, ↓e_truN, ↓e_truS, ↓e_not, ↓e_and, ↓e_or, ↓e_andv, ↓e_orv, ↓e_notv, ↓e_andK, ↓e_orK, ↓e_notK, ↓e_if, ↓e_nil, ↓e_cons, ↓e_tup, ↓e_lst, ↓e_new, ↓e_call, ↓e_callK, ↓e_drop, ↓e_ret, ↓e_retN, ↓e_pass, ↓e_ifS, ↓e_g0, ↓e_gs, ↓e_gnil, ↓e_gcons, ↓e_gtup, ↓e_asg, ↓e_par, ↓e_parK, ↓e_par3, ↓e_par3K, ↓e_chain, ↓e_chK, ↓e_no, ↓e_some, ↓e_someK, ↓e_cut, ↓e_b, ↓e_iter, ↓e_iterL, ↓e_iterT, ↓e_iterS, ↓e_rng1, ↓e_rng1K, ↓e_rng2, ↓e_rng2K, ↓e_rng3, ↓e_rng3K, ↓e_enum, ↓e_enumL, ↓e_enumT, ↓e_zip, ↓e_zipL, ↓e_zipT, ↓e_zipM, ↓e_zipMK, ↓e_zipS, ↓e_zipSK, ↓e_for, ↓e_lc, ↓e_lcNew, ↓e_forN, ↓e_forC, ↓e_lcN, ↓e_lcC, ↓e_srcN, ↓e_srcC, ↓e_meth, ↓e_isL, ↓e_sub, ↓e_aug, ↓e_augK, ↓e_isi, ↓e_yes, ↓e_bits, ↓e_bitsK, ↓e_cLast, ↓e_cLink, ↓e_cK, ↓e_cNext, ↓e_testCh, ↓e_addI, ↓e_addB, ↓e_addS, ↓e_addT, ↓e_addL, ↓e_subI, ↓e_mulI, ↓e_mulT, ↓e_mulL, ↓e_divI, ↓e_modI, ↓e_powI, ↓e_negI, ↓e_iadd, ↓e_cmpI, ↓e_eq, ↓e_ne, ↓e_isn, ↓e_isnn, ↓e_isb, ↓e_ixL, ↓e_ixKL, ↓e_ixT, ↓e_cutL, ↓e_cutKL, ↓e_cutT, ↓e_lenL, ↓e_lenKL, ↓e_lenT, ↓e_abs, ↓e_intI, ↓e_intB, ↓e_max2, ↓e_min2, ↓e_listL, ↓e_listT, ↓e_listNL, ↓e_listNT, ↓e_tupL, ↓e_tupT, ↓e_sum1T, ↓e_sum1L, ↓e_max1T, ↓e_max1L, ↓e_drI, ↓e_drB, ↓e_drS, ↓e_drN, ↓e_drL, ↓e_drT, ↓e_seq, ↓e_back, ↓e_backL, ↓e_backT, ↓e_sortedL, ↓e_sortedNL, ↓e_divmod, ↓e_lr1, ↓e_lr1K, ↓e_lr2, ↓e_lr2K, ↓e_lr3, ↓e_lr3K, ↓e_revR1, ↓e_revR1K, ↓e_srtSet, ↓e_unlL, ↓e_inL, ↓e_inKL, ↓e_inT, ↓e_inFlat, ↓e_drK, ↓e_srtSetL, ↓e_lenSet, ↓e_lenSetL, ↓e_enumF, ↓e_enumFT, ↓e_reprL, ↓e_reprT, ↓e_reprI, ↓e_reprB, ↓e_reprN, ↓e_reprS, ↓e_strI, ↓e_isub, ↓e_strB, ↓e_addBI, ↓e_subBI, ↓e_subIB, ↓e_drG, ↓e_dnew, ↓e_dgetF, ↓e_dget1, ↓e_dget2, ↓e_dsetdS, ↓e_dgPut, ↓e_lenSetZ, ↓e_lenSetZL, e_kyI, e_kyS, Nat.reduceAdd, Nat.zero_add, List.length_cons, List.length_nil, List.length_map, Nat.reduceLeDiff, and_true, true_and, if_true, ite_true, decide_eq_true_eq, Bool.not_eq_true, Bool.false_eq_true, if_false, ite_false, ↓reduceIte, Int.reduceToNat, Int.reducePow, ne_eq, q_okI, q_okB, q_okN, q_okS, q_okL, q_okT, q_oks0, q_oks1, q_eqII, q_eqBB, q_eqSS, q_eqLL, q_eqTT, q_eqNN, q_eqNI, q_eqIN, q_eqs0, q_eqs1, Bool.true_and, Bool.and_true, beq_iff_eq, reduceCtorEq, wipeE, List.set_cons_zero, List.set_cons_succ, List.set_nil, Bool.not_true, Bool.not_false, List.getElem?_cons_zero, List.getElem?_cons_succ])
    exact fin cs (by omega)
structure Fx (K : PySem.W.Frag) (mg : Str → Option Value) : Prop where
  g_LEFT : ∃ t, mg "LEFT" = some (.str "left" t)
  g_RIGHT : ∃ t, mg "RIGHT" = some (.str "right" t)
  b_abs : mg "abs" = none
  b_range : mg "range" = none
  b_enumerate : mg "enumerate" = none
  b_sorted : mg "sorted" = none
  b_tuple : mg "tuple" = none
  b_max : mg "max" = none
  b_len : mg "len" = none
  b_int : mg "int" = none
  b_list : mg "list" = none
  b_min : mg "min" = none
  b_any : mg "any" = none
  b_zip : mg "zip" = none
  b_set : mg "set" = none
theorem d_lighter {P : Program} {wo : World} {K : PySem.W.Frag} {mg : Str → Option Value} {base : Heap} {f : Addr} {cdv : Value} {A : Around} {outer : List PySem.Env} {s : Shared} {H : Hp} {E : XK} (T : Fx K mg)
    (hr : RoomG 0 (A.deeper (envOfC "lighter" (defScope s_lighter) s.heap.objs.size f cdv))) : PDSs (cxOf CX0 P wo K mg base N_lighter "lighter" (defScope s_lighter) f cdv A outer s H E).nox (defBody s_lighter) t_lighter :=
    (pdss_one (pds_ret (pd_ife (pd_tcmp dop_lt (pd_var 0) pd_int (nomark _)) (pd_gstr T.g_LEFT) (pd_gstr T.g_RIGHT))))
theorem ok_lighter {P : Program} {wo : World} {K : PySem.W.Frag} {mg : Str → Option Value} {base : Heap} {f : Addr} {fd : FuncData} (T : Fx K mg) (F : FnP K "lighter" s_lighter f fd) : FnG P wo K mg base CX0 1 f fd ["standing"] (spD K sp_lighter) :=
  fnD false F sc_lighter len_lighter (fun cdv A outer s H E hr => d_lighter T  hr) p_lighter
theorem d_laid_on {P : Program} {wo : World} {K : PySem.W.Frag} {mg : Str → Option Value} {base : Heap} {f : Addr} {cdv : Value} {A : Around} {outer : List PySem.Env} {s : Shared} {H : Hp} {E : XK} (T : Fx K mg)
    (hr : RoomG 0 (A.deeper (envOfC "laid_on" (defScope s_laid_on) s.heap.objs.size f cdv))) : PDSs (cxOf CX0 P wo K mg base N_laid_on "laid_on" (defScope s_laid_on) f cdv A outer s H E).nox (defBody s_laid_on) t_laid_on :=
    (pdss_one (pds_ret (pd_ife (pd_tcmp (dop_eq hr.units) (pd_var 1) (pd_gstr T.g_LEFT) (nomark _)) (pd_op dop_add (pd_var 0) (pd_op dop_mul pd_int (pd_var 2))) (pd_op dop_sub (pd_var 0) (pd_op dop_mul pd_int (pd_var 2))))))
theorem ok_laid_on {P : Program} {wo : World} {K : PySem.W.Frag} {mg : Str → Option Value} {base : Heap} {f : Addr} {fd : FuncData} (T : Fx K mg) (F : FnP K "laid_on" s_laid_on f fd) : FnG P wo K mg base CX0 1 f fd ["standing", "side", "weight"] (spD K sp_laid_on) :=
  fnD false F sc_laid_on len_laid_on (fun cdv A outer s H E hr => d_laid_on T  hr) p_laid_on
theorem d_fall {P : Program} {wo : World} {K : PySem.W.Frag} {mg : Str → Option Value} {base : Heap} {f : Addr} {cdv : Value} {A : Around} {outer : List PySem.Env} {s : Shared} {H : Hp} {E : XK} (T : Fx K mg) (c_lighter : Cal P wo K mg base 1 "lighter" ["standing"] sp_lighter) (c_laid_on : Cal P wo K mg base 1 "laid_on" ["standing", "side", "weight"] sp_laid_on)
    (hr : RoomG 1 (A.deeper (envOfC "fall" (defScope s_fall) s.heap.objs.size f cdv))) : PDSs (cxOf CX0 P wo K mg base N_fall "fall" (defScope s_fall) f cdv A outer s H E).nox (defBody s_fall) t_fall :=
    (pdss_cons (pds_set 2 sc_fall.nd (pd_callC c_lighter hr (pda_cons (pd_var 0) pda_nil)))
    (pdss_one (pds_ret (pd_tup (pda_cons (pd_var 2) (pda_cons (pd_callC c_laid_on hr (pda_cons (pd_var 0) (pda_cons (pd_var 2) (pda_cons (pd_var 1) pda_nil)))) pda_nil))))))
theorem ok_fall {P : Program} {wo : World} {K : PySem.W.Frag} {mg : Str → Option Value} {base : Heap} {f : Addr} {fd : FuncData} (T : Fx K mg) (F : FnP K "fall" s_fall f fd) (c_lighter : Cal P wo K mg base 1 "lighter" ["standing"] sp_lighter) (c_laid_on : Cal P wo K mg base 1 "laid_on" ["standing", "side", "weight"] sp_laid_on) : FnG P wo K mg base CX0 2 f fd ["standing", "weight"] (spD K sp_fall) :=
  fnD false F sc_fall len_fall (fun cdv A outer s H E hr => d_fall T c_lighter c_laid_on hr) p_fall
theorem d_falls {P : Program} {wo : World} {K : PySem.W.Frag} {mg : Str → Option Value} {base : Heap} {f : Addr} {cdv : Value} {A : Around} {outer : List PySem.Env} {s : Shared} {H : Hp} {E : XK} (T : Fx K mg) (c_fall : Cal P wo K mg base 2 "fall" ["standing", "weight"] sp_fall)
    (hr : RoomG 2 (A.deeper (envOfC "falls" (defScope s_falls) s.heap.objs.size f cdv))) : PDSs (cxOf CX0 P wo K mg base N_falls "falls" (defScope s_falls) f cdv A outer s H E).nox (defBody s_falls) t_falls :=
    (pdss_cons (pds_set 2 sc_falls.nd (pd_new pda_nil))
    (pdss_cons (pds_for PassesOwn.never rfl (pdi_any (pd_var 1)) (pdg_name 3 sc_falls.nd) (pdss_cons (pds_asg (pd_callC c_fall hr (pda_cons (pd_var 0) (pda_cons (pd_var 3) pda_nil))) (pdg_tup rfl (pdgs_cons (pdg_name 4 sc_falls.nd) (pdgs_cons (pdg_name 0 sc_falls.nd) pdgs_nil))))
    (pdss_one (pds_expr (pd_bm PySem.F.slot_list_append PySem.F.type_list_append md_append (pd_var 2) (pda_cons (pd_var 4) pda_nil))))))
    (pdss_one (pds_ret (pd_tup (pda_cons (pd_var 2) (pda_cons (pd_var 0) pda_nil)))))))
theorem ok_falls {P : Program} {wo : World} {K : PySem.W.Frag} {mg : Str → Option Value} {base : Heap} {f : Addr} {fd : FuncData} (T : Fx K mg) (F : FnP K "falls" s_falls f fd) (c_fall : Cal P wo K mg base 2 "fall" ["standing", "weight"] sp_fall) : FnG P wo K mg base CX0 3 f fd ["standing", "word"] (spD K sp_falls) :=
  fnD true F sc_falls len_falls (fun cdv A outer s H E hr => d_falls T c_fall hr) p_falls
theorem d_spot_of {P : Program} {wo : World} {K : PySem.W.Frag} {mg : Str → Option Value} {base : Heap} {f : Addr} {cdv : Value} {A : Around} {outer : List PySem.Env} {s : Shared} {H : Hp} {E : XK} (T : Fx K mg) (c_falls : Cal P wo K mg base 3 "falls" ["standing", "word"] sp_falls)
    (hr : RoomG 3 (A.deeper (envOfC "spot_of" (defScope s_spot_of) s.heap.objs.size f cdv))) : PDSs (cxOf CX0 P wo K mg base N_spot_of "spot_of" (defScope s_spot_of) f cdv A outer s H E).nox (defBody s_spot_of) t_spot_of :=
    (pdss_cons (pds_set 2 sc_spot_of.nd (pd_ix (pd_callC c_falls hr (pda_cons (pd_var 1) (pda_cons (pd_var 0) pda_nil))) pd_int))
    (pdss_one (pds_ret (pd_tup (pda_cons (pd_callB cb_abs T.b_abs (by decide +kernel) (pda_cons (pd_var 2) pda_nil)) (pda_cons (pd_cmp dop_lt (pd_var 2) pd_int (nomark _)) pda_nil))))))
theorem ok_spot_of {P : Program} {wo : World} {K : PySem.W.Frag} {mg : Str → Option Value} {base : Heap} {f : Addr} {fd : FuncData} (T : Fx K mg) (F : FnP K "spot_of" s_spot_of f fd) (c_falls : Cal P wo K mg base 3 "falls" ["standing", "word"] sp_falls) : FnG P wo K mg base CX0 4 f fd ["word", "size"] (spD K sp_spot_of) :=
  fnD false F sc_spot_of len_spot_of (fun cdv A outer s H E hr => d_spot_of T c_falls hr) p_spot_of
theorem d_strip {P : Program} {wo : World} {K : PySem.W.Frag} {mg : Str → Option Value} {base : Heap} {f : Addr} {cdv : Value} {A : Around} {outer : List PySem.Env} {s : Shared} {H : Hp} {E : XK} (T : Fx K mg) (c_spot_of : Cal P wo K mg base 4 "spot_of" ["word", "size"] sp_spot_of)
    (hr : RoomG 4 (A.deeper (envOfC "strip" (defScope s_strip) s.heap.objs.size f cdv))) : PDSs (cxOf CX0 P wo K mg base N_strip "strip" (defScope s_strip) f cdv A outer s H E).nox (defBody s_strip) t_strip :=
    (pdss_one (pds_ret (pd_lcNew [("size", 2)] rfl sc_strip.nd (pdi_range3 T.b_range pd_int (pd_op dop_mul pd_int (pd_var 1)) pd_int) (blkOk_by (N := N_strip) (sc := defScope s_strip) (by decide +kernel)) (fun _ _ _ _ _ => (pdgo_name 2 sc_strip.nd)) (fun _ _ _ _ _ => pdts_nil) (fun _ _ _ _ _ => (pd_callC c_spot_of hr (pda_cons (pd_var 0) (pda_cons (pd_var 2) pda_nil)))))))
theorem ok_strip {P : Program} {wo : World} {K : PySem.W.Frag} {mg : Str → Option Value} {base : Heap} {f : Addr} {fd : FuncData} (T : Fx K mg) (F : FnP K "strip" s_strip f fd) (c_spot_of : Cal P wo K mg base 4 "spot_of" ["word", "size"] sp_spot_of) : FnG P wo K mg base CX0 5 f fd ["word", "most"] (spD K sp_strip) :=
  fnD true F sc_strip len_strip (fun cdv A outer s H E hr => d_strip T c_spot_of hr) p_strip
theorem d_layers {P : Program} {wo : World} {K : PySem.W.Frag} {mg : Str → Option Value} {base : Heap} {f : Addr} {cdv : Value} {A : Around} {outer : List PySem.Env} {s : Shared} {H : Hp} {E : XK} (T : Fx K mg) (c_strip : Cal P wo K mg base 5 "strip" ["word", "most"] sp_strip)
    (hr : RoomG 5 (A.deeper (envOfC "layers" (defScope s_layers) s.heap.objs.size f cdv))) : PDSs (cxOf CX0 P wo K mg base N_layers "layers" (defScope s_layers) f cdv A outer s H E).nox (defBody s_layers) t_layers :=
    (pdss_cons (pds_set 2 sc_layers.nd pd_dnewK)
    (pdss_cons (pds_for PassesOwn.never rfl (pdi_enum T.b_enumerate (pd_callC c_strip hr (pda_cons (pd_var 0) (pda_cons (pd_var 1) pda_nil)))) (pdg_tup rfl (pdgs_cons (pdg_name 3 sc_layers.nd) (pdgs_cons (pdg_tup rfl (pdgs_cons (pdg_name 4 sc_layers.nd) (pdgs_cons (pdg_name 5 sc_layers.nd) pdgs_nil))) pdgs_nil))) (pdss_one (pds_expr (pd_bm PySem.F.slot_list_append PySem.F.type_list_append md_append (pd_dsetd (pd_var 2) (pd_var 4) (pd_new pda_nil)) (pda_cons (pd_op dop_add (pd_op dop_mul pd_int (pd_var 3)) pd_int) pda_nil)))))
    (pdss_one (pds_ret (pd_lcNew [("size", 4)] rfl sc_layers.nd (pdi_any (pd_callB (cb_sortedD rfl) T.b_sorted (by decide +kernel) (pda_cons (pd_var 2) pda_nil))) (blkOk_by (N := N_layers) (sc := defScope s_layers) (by decide +kernel)) (fun _ _ _ _ _ => (pdgo_name 4 sc_layers.nd)) (fun _ _ _ _ _ => pdts_nil) (fun _ _ _ _ _ => (pd_tup (pda_cons (pd_var 4) (pda_cons (pd_callTy cb_tuple T.b_tuple (by decide +kernel) (pda_cons (pd_dget hr.units (pd_var 2) (pd_var 4)) pda_nil)) pda_nil)))))))))
theorem ok_layers {P : Program} {wo : World} {K : PySem.W.Frag} {mg : Str → Option Value} {base : Heap} {f : Addr} {fd : FuncData} (T : Fx K mg) (F : FnP K "layers" s_layers f fd) (c_strip : Cal P wo K mg base 5 "strip" ["word", "most"] sp_strip) : FnG P wo K mg base CX0 6 f fd ["word", "most"] (spD K sp_layers) :=
  fnD true F sc_layers len_layers (fun cdv A outer s H E hr => d_layers T c_strip hr) p_layers
theorem d_spots {P : Program} {wo : World} {K : PySem.W.Frag} {mg : Str → Option Value} {base : Heap} {f : Addr} {cdv : Value} {A : Around} {outer : List PySem.Env} {s : Shared} {H : Hp} {E : XK} (T : Fx K mg)
    (hr : RoomG 0 (A.deeper (envOfC "spots" (defScope s_spots) s.heap.objs.size f cdv))) : PDSs (cxOf CX0 P wo K mg base N_spots "spots" (defScope s_spots) f cdv A outer s H E).nox (defBody s_spots) t_spots :=
    (pdss_one (pds_ret (pd_op dop_add (pd_op dop_div (pd_op dop_sub (pd_ix (pd_var 0) pd_int) (pd_ix (pd_var 0) pd_int)) pd_int) pd_int)))
theorem ok_spots {P : Program} {wo : World} {K : PySem.W.Frag} {mg : Str → Option Value} {base : Heap} {f : Addr} {fd : FuncData} (T : Fx K mg) (F : FnP K "spots" s_spots f fd) : FnG P wo K mg base CX0 1 f fd ["run"] (spD K sp_spots) :=
  fnD false F sc_spots len_spots (fun cdv A outer s H E hr => d_spots T  hr) p_spots
theorem d_parts {P : Program} {wo : World} {K : PySem.W.Frag} {mg : Str → Option Value} {base : Heap} {f : Addr} {cdv : Value} {A : Around} {outer : List PySem.Env} {s : Shared} {H : Hp} {E : XK} (T : Fx K mg)
    (hr : RoomG 0 (A.deeper (envOfC "parts" (defScope s_parts) s.heap.objs.size f cdv))) : PDSs (cxOf CX0 P wo K mg base N_parts "parts" (defScope s_parts) f cdv A outer s H E).nox (defBody s_parts) t_parts :=
    (pdss_one (pds_ret (pd_chain dop_lt dop_lt (pd_ix (pd_var 0) pd_int) (pd_op dop_mul pd_int (pd_var 1)) (pd_ix (pd_var 0) pd_int))))
theorem ok_parts {P : Program} {wo : World} {K : PySem.W.Frag} {mg : Str → Option Value} {base : Heap} {f : Addr} {fd : FuncData} (T : Fx K mg) (F : FnP K "parts" s_parts f fd) : FnG P wo K mg base CX0 1 f fd ["run", "weight"] (spD K sp_parts) :=
  fnD false F sc_parts len_parts (fun cdv A outer s H E hr => d_parts T  hr) p_parts
theorem d_folded {P : Program} {wo : World} {K : PySem.W.Frag} {mg : Str → Option Value} {base : Heap} {f : Addr} {cdv : Value} {A : Around} {outer : List PySem.Env} {s : Shared} {H : Hp} {E : XK} (T : Fx K mg) (c_parts : Cal P wo K mg base 1 "parts" ["run", "weight"] sp_parts)
    (hr : RoomG 1 (A.deeper (envOfC "folded" (defScope s_folded) s.heap.objs.size f cdv))) : PDSs (cxOf CX0 P wo K mg base N_folded "folded" (defScope s_folded) f cdv A outer s H E).nox (defBody s_folded) t_folded :=
    (pdss_cons (pds_asg (pd_var 0) (pdg_tup rfl (pdgs_cons (pdg_name 2 sc_folded.nd) (pdgs_cons (pdg_name 3 sc_folded.nd) pdgs_nil))))
    (pdss_cons (pds_if (pd_tru (pd_callC c_parts hr (pda_cons (pd_var 0) (pda_cons (pd_var 1) pda_nil)))) (pdss_one (pds_ret (pd_tup (pda_cons pd_int (pda_cons (pd_callB (cb_max2 rfl) T.b_max (by decide +kernel) (pda_cons (pd_op dop_sub (pd_op dop_mul pd_int (pd_var 1)) (pd_var 2)) (pda_cons (pd_op dop_sub (pd_var 3) (pd_op dop_mul pd_int (pd_var 1))) pda_nil))) pda_nil))))) pdss_nil)
    (pdss_cons (pds_if (pd_tcmp dop_lt (pd_var 3) (pd_op dop_mul pd_int (pd_var 1)) (nomark _)) (pdss_one (pds_ret (pd_tup (pda_cons (pd_op dop_sub (pd_op dop_mul pd_int (pd_var 1)) (pd_var 3)) (pda_cons (pd_op dop_sub (pd_op dop_mul pd_int (pd_var 1)) (pd_var 2)) pda_nil))))) pdss_nil)
    (pdss_one (pds_ret (pd_tup (pda_cons (pd_op dop_sub (pd_var 2) (pd_op dop_mul pd_int (pd_var 1))) (pda_cons (pd_op dop_sub (pd_var 3) (pd_op dop_mul pd_int (pd_var 1))) pda_nil))))))))
theorem ok_folded {P : Program} {wo : World} {K : PySem.W.Frag} {mg : Str → Option Value} {base : Heap} {f : Addr} {fd : FuncData} (T : Fx K mg) (F : FnP K "folded" s_folded f fd) (c_parts : Cal P wo K mg base 1 "parts" ["run", "weight"] sp_parts) : FnG P wo K mg base CX0 2 f fd ["run", "weight"] (spD K sp_folded) :=
  fnD false F sc_folded len_folded (fun cdv A outer s H E hr => d_folded T c_parts hr) p_folded
theorem d_behind {P : Program} {wo : World} {K : PySem.W.Frag} {mg : Str → Option Value} {base : Heap} {f : Addr} {cdv : Value} {A : Around} {outer : List PySem.Env} {s : Shared} {H : Hp} {E : XK} (T : Fx K mg) (c_folded : Cal P wo K mg base 2 "folded" ["run", "weight"] sp_folded)
    (hr : RoomG 2 (A.deeper (envOfC "behind" (defScope s_behind) s.heap.objs.size f cdv))) : PDSs (cxOf CX0 P wo K mg base N_behind "behind" (defScope s_behind) f cdv A outer s H E).nox (defBody s_behind) t_behind :=
    (pdss_cons (pds_for PassesOwn.never rfl (pdi_any (pd_var 1)) (pdg_name 2 sc_behind.nd) (pdss_one (pds_set 0 sc_behind.nd (pd_callC c_folded hr (pda_cons (pd_var 0) (pda_cons (pd_var 2) pda_nil))))))
    (pdss_one (pds_ret (pd_tup (pda_cons (pd_ix (pd_var 0) pd_int) (pda_cons (pd_ix (pd_var 0) pd_int) pda_nil))))))
theorem ok_behind {P : Program} {wo : World} {K : PySem.W.Frag} {mg : Str → Option Value} {base : Heap} {f : Addr} {fd : FuncData} (T : Fx K mg) (F : FnP K "behind" s_behind f fd) (c_folded : Cal P wo K mg base 2 "folded" ["run", "weight"] sp_folded) : FnG P wo K mg base CX0 3 f fd ["run", "word"] (spD K sp_behind) :=
  fnD false F sc_behind len_behind (fun cdv A outer s H E hr => d_behind T c_folded hr) p_behind
theorem d_is_whole {P : Program} {wo : World} {K : PySem.W.Frag} {mg : Str → Option Value} {base : Heap} {f : Addr} {cdv : Value} {A : Around} {outer : List PySem.Env} {s : Shared} {H : Hp} {E : XK} (T : Fx K mg) (c_parts : Cal P wo K mg base 1 "parts" ["run", "weight"] sp_parts) (c_folded : Cal P wo K mg base 2 "folded" ["run", "weight"] sp_folded)
    (hr : RoomG 2 (A.deeper (envOfC "is_whole" (defScope s_is_whole) s.heap.objs.size f cdv))) : PDSs (cxOf CX0 P wo K mg base N_is_whole "is_whole" (defScope s_is_whole) f cdv A outer s H E).nox (defBody s_is_whole) t_is_whole :=
    (pdss_cons (pds_set 2 sc_is_whole.nd (pd_var 0))
    (pdss_cons (pds_for PassesOwn.never rfl (pdi_any (pd_var 1)) (pdg_name 3 sc_is_whole.nd) (pdss_cons (pds_if (pd_tru (pd_callC c_parts hr (pda_cons (pd_var 2) (pda_cons (pd_var 3) pda_nil)))) (pdss_one (pds_ret pd_bl)) pdss_nil)
    (pdss_one (pds_set 2 sc_is_whole.nd (pd_callC c_folded hr (pda_cons (pd_var 2) (pda_cons (pd_var 3) pda_nil)))))))
    (pdss_one (pds_ret pd_bl))))
theorem ok_is_whole {P : Program} {wo : World} {K : PySem.W.Frag} {mg : Str → Option Value} {base : Heap} {f : Addr} {fd : FuncData} (T : Fx K mg) (F : FnP K "is_whole" s_is_whole f fd) (c_parts : Cal P wo K mg base 1 "parts" ["run", "weight"] sp_parts) (c_folded : Cal P wo K mg base 2 "folded" ["run", "weight"] sp_folded) : FnG P wo K mg base CX0 3 f fd ["run", "word"] (spD K sp_is_whole) :=
  fnD false F sc_is_whole len_is_whole (fun cdv A outer s H E hr => d_is_whole T c_parts c_folded hr) p_is_whole
theorem d__law_tape {P : Program} {wo : World} {K : PySem.W.Frag} {mg : Str → Option Value} {base : Heap} {f : Addr} {cdv : Value} {A : Around} {outer : List PySem.Env} {s : Shared} {H : Hp} {E : XK} (T : Fx K mg)
    (hr : RoomG 0 (A.deeper (envOfC "_law_tape" (defScope s__law_tape) s.heap.objs.size f cdv))) : PDSs (cxOf CX0 P wo K mg base N__law_tape "_law_tape" (defScope s__law_tape) f cdv A outer s H E).nox (defBody s__law_tape) t__law_tape :=
    (pdss_cons (pds_set 2 sc__law_tape.nd (pd_ife (pd_tcmp dop_lt (pd_var 1) (pd_callB cb_len T.b_len (by decide +kernel) (pda_cons (pd_var 0) pda_nil)) (nomark _)) (pd_ix (pd_var 0) (pd_var 1)) pd_int))
    (pdss_one (pds_ret (pd_new (pda_cons (pd_op dop_mul (pd_callB cb_abs T.b_abs (by decide +kernel) (pda_cons (pd_var 2) pda_nil)) (pd_callTy cb_int T.b_int (by decide +kernel) (pda_cons (pd_cmp dop_ge (pd_callB cb_abs T.b_abs (by decide +kernel) (pda_cons (pd_var 2) pda_nil)) (pd_op dop_pow pd_int pd_int) (nomark _)) pda_nil))) (pda_cons (pd_op dop_add (pd_op dop_add (pd_op dop_mod (pd_var 2) pd_int) (pd_op dop_mul pd_int (pd_var 1))) pd_int) (pda_cons pd_int pda_nil)))))))
theorem ok__law_tape {P : Program} {wo : World} {K : PySem.W.Frag} {mg : Str → Option Value} {base : Heap} {f : Addr} {fd : FuncData} (T : Fx K mg) (F : FnP K "_law_tape" s__law_tape f fd) : FnG P wo K mg base CX0 1 f fd ["_law_script", "_law_k"] (spD K sp__law_tape) :=
  fnD false F sc__law_tape len__law_tape (fun cdv A outer s H E hr => d__law_tape T  hr) p__law_tape
theorem d__law_draw {P : Program} {wo : World} {K : PySem.W.Frag} {mg : Str → Option Value} {base : Heap} {f : Addr} {cdv : Value} {A : Around} {outer : List PySem.Env} {s : Shared} {H : Hp} {E : XK} (T : Fx K mg)
    (hr : RoomG 0 (A.deeper (envOfC "_law_draw" (defScope s__law_draw) s.heap.objs.size f cdv))) : PDSs (cxOf CX0 P wo K mg base N__law_draw "_law_draw" (defScope s__law_draw) f cdv A outer s H E).nox (defBody s__law_draw) t__law_draw :=
    (pdss_cons (pds_if (pd_tcmp dop_gt (pd_ix (pd_var 0) pd_int) pd_int (nomark _)) (pdss_cons (pds_set 2 sc__law_draw.nd (pd_op dop_mod (pd_ix (pd_var 0) pd_int) (pd_var 1)))
    (pdss_cons (pds_asg (pd_op dop_div (pd_ix (pd_var 0) pd_int) (pd_var 1)) (pdg_sub (pd_var 0) pd_int))
    (pdss_one (pds_ret (pd_var 2))))) pdss_nil)
    (pdss_cons (pds_asg (pd_op dop_add (pd_ix (pd_var 0) pd_int) pd_int) (pdg_sub (pd_var 0) pd_int))
    (pdss_cons (pds_set 3 sc__law_draw.nd (pd_op dop_mod (pd_op dop_pow (pd_op dop_add (pd_ix (pd_var 0) pd_int) (pd_op dop_mul pd_int (pd_ix (pd_var 0) pd_int))) pd_int) pd_int))
    (pdss_cons (pds_set 4 sc__law_draw.nd (pd_op dop_mod (pd_op dop_mul (pd_op dop_add (pd_var 3) (pd_ix (pd_var 0) pd_int)) (pd_op dop_add (pd_op dop_add (pd_op dop_mod (pd_var 3) pd_int) pd_int) (pd_ix (pd_var 0) pd_int))) pd_int))
    (pdss_cons (pds_set 5 sc__law_draw.nd (pd_op dop_mod (pd_op dop_add (pd_op dop_add (pd_op dop_div (pd_ix (pd_var 0) pd_int) pd_int) (pd_op dop_mul (pd_var 4) pd_int)) (pd_ix (pd_var 0) pd_int)) pd_int))
    (pdss_one (pds_ret (pd_op dop_mod (pd_op dop_div (pd_op dop_mod (pd_op dop_add (pd_op dop_add (pd_op dop_mul (pd_var 4) pd_int) (pd_op dop_mul (pd_var 5) pd_int)) (pd_var 3)) pd_int) pd_int) (pd_var 1)))))))))
theorem ok__law_draw {P : Program} {wo : World} {K : PySem.W.Frag} {mg : Str → Option Value} {base : Heap} {f : Addr} {fd : FuncData} (T : Fx K mg) (F : FnP K "_law_draw" s__law_draw f fd) : FnG P wo K mg base CX0 1 f fd ["_law_tape_here", "_law_count"] (spD K sp__law_draw) :=
  fnD false F sc__law_draw len__law_draw (fun cdv A outer s H E hr => d__law_draw T  hr) p__law_draw
theorem d__law_folded {P : Program} {wo : World} {K : PySem.W.Frag} {mg : Str → Option Value} {base : Heap} {f : Addr} {cdv : Value} {A : Around} {outer : List PySem.Env} {s : Shared} {H : Hp} {E : XK} (T : Fx K mg)
    (hr : RoomG 0 (A.deeper (envOfC "_law_folded" (defScope s__law_folded) s.heap.objs.size f cdv))) : PDSs (cxOf CX0 P wo K mg base N__law_folded "_law_folded" (defScope s__law_folded) f cdv A outer s H E).nox (defBody s__law_folded) t__law_folded :=
    (pdss_cons (pds_set 2 sc__law_folded.nd (pd_callTy cb_listNew T.b_list (by decide +kernel) (pda_cons (pd_cut sl_cut (pd_var 0) pdo_none (pdo_some (pd_var 1))) pda_nil)))
    (pdss_cons (pds_for PassesOwn.never rfl (pdi_enum T.b_enumerate (pd_cut sl_cut (pd_var 0) (pdo_some (pd_var 1)) (pdo_some pd_int))) (pdg_tup rfl (pdgs_cons (pdg_name 3 sc__law_folded.nd) (pdgs_cons (pdg_name 4 sc__law_folded.nd) pdgs_nil))) (pdss_one (pds_asg (pd_op dop_add (pd_ix (pd_var 2) (pd_op dop_mod (pd_var 3) (pd_var 1))) (pd_op dop_mul (pd_var 4) (pd_op dop_add (pd_var 3) pd_int))) (pdg_sub (pd_var 2) (pd_op dop_mod (pd_var 3) (pd_var 1))))))
    (pdss_one (pds_ret (pd_var 2)))))
theorem ok__law_folded {P : Program} {wo : World} {K : PySem.W.Frag} {mg : Str → Option Value} {base : Heap} {f : Addr} {fd : FuncData} (T : Fx K mg) (F : FnP K "_law_folded" s__law_folded f fd) : FnG P wo K mg base CX0 1 f fd ["_law_script", "_law_count"] (spD K sp__law_folded) :=
  fnD true F sc__law_folded len__law_folded (fun cdv A outer s H E hr => d__law_folded T  hr) p__law_folded
theorem d__law_weight {P : Program} {wo : World} {K : PySem.W.Frag} {mg : Str → Option Value} {base : Heap} {f : Addr} {cdv : Value} {A : Around} {outer : List PySem.Env} {s : Shared} {H : Hp} {E : XK} (T : Fx K mg) (c__law_draw : Cal P wo K mg base 1 "_law_draw" ["_law_tape_here", "_law_count"] sp__law_draw)
    (hr : RoomG 1 (A.deeper (envOfC "_law_weight" (defScope s__law_weight) s.heap.objs.size f cdv))) : PDSs (cxOf CX0 P wo K mg base N__law_weight "_law_weight" (defScope s__law_weight) f cdv A outer s H E).nox (defBody s__law_weight) t__law_weight :=
    (pdss_one (pds_ret (pd_ix (pd_lst (pda_cons (pd_op dop_add pd_int (pd_callC c__law_draw hr (pda_cons (pd_var 0) (pda_cons (pd_var 1) pda_nil)))) (pda_cons (pd_op dop_add pd_int (pd_callC c__law_draw hr (pda_cons (pd_var 0) (pda_cons (pd_callB (cb_min2 rfl) T.b_min (by decide +kernel) (pda_cons pd_int (pda_cons (pd_var 1) pda_nil))) pda_nil)))) (pda_cons (pd_var 1) (pda_cons pd_int pda_nil))))) (pd_callC c__law_draw hr (pda_cons (pd_var 0) (pda_cons pd_int pda_nil))))))
theorem ok__law_weight {P : Program} {wo : World} {K : PySem.W.Frag} {mg : Str → Option Value} {base : Heap} {f : Addr} {fd : FuncData} (T : Fx K mg) (F : FnP K "_law_weight" s__law_weight f fd) (c__law_draw : Cal P wo K mg base 1 "_law_draw" ["_law_tape_here", "_law_count"] sp__law_draw) : FnG P wo K mg base CX0 2 f fd ["_law_tape_here", "_law_high"] (spD K sp__law_weight) :=
  fnD false F sc__law_weight len__law_weight (fun cdv A outer s H E hr => d__law_weight T c__law_draw hr) p__law_weight
theorem d__law_word {P : Program} {wo : World} {K : PySem.W.Frag} {mg : Str → Option Value} {base : Heap} {f : Addr} {cdv : Value} {A : Around} {outer : List PySem.Env} {s : Shared} {H : Hp} {E : XK} (T : Fx K mg) (c__law_draw : Cal P wo K mg base 1 "_law_draw" ["_law_tape_here", "_law_count"] sp__law_draw) (c__law_weight : Cal P wo K mg base 2 "_law_weight" ["_law_tape_here", "_law_high"] sp__law_weight)
    (hr : RoomG 2 (A.deeper (envOfC "_law_word" (defScope s__law_word) s.heap.objs.size f cdv))) : PDSs (cxOf CX0 P wo K mg base N__law_word "_law_word" (defScope s__law_word) f cdv A outer s H E).nox (defBody s__law_word) t__law_word :=
    (pdss_cons (pds_par 3 4 rfl sc__law_word.nd (pda_cons (pd_op dop_add pd_int (pd_callC c__law_draw hr (pda_cons (pd_var 0) (pda_cons (pd_var 1) pda_nil)))) (pda_cons (pd_callC c__law_draw hr (pda_cons (pd_var 0) (pda_cons pd_int pda_nil))) pda_nil)))
    (pdss_cons (pds_set 5 sc__law_word.nd (pd_lc [("_law_k", 6)] rfl sc__law_word.nd (pdi_range1 T.b_range (pd_ix (pd_lst (pda_cons (pd_var 3) (pda_cons (pd_var 3) (pda_cons (pd_var 3) (pda_cons (pd_var 3) (pda_cons pd_int (pda_cons pd_int pda_nil))))))) (pd_var 4))) (blkOk_by (N := N__law_word) (sc := defScope s__law_word) (by decide +kernel)) (fun _ _ _ _ _ => (pdgo_name 6 sc__law_word.nd)) (fun _ _ _ _ _ => pdts_nil) (fun _ _ _ _ _ => (pd_callC c__law_weight hr (pda_cons (pd_var 0) (pda_cons (pd_var 2) pda_nil))))))
    (pdss_one (pds_ret (pd_callTy cb_tuple T.b_tuple (by decide +kernel) (pda_cons (pd_lc [("_law_k", 6)] rfl sc__law_word.nd (pdi_range1 T.b_range (pd_var 3)) (blkOk_by (N := N__law_word) (sc := defScope s__law_word) (by decide +kernel)) (fun _ _ _ _ _ => (pdgo_name 6 sc__law_word.nd)) (fun _ _ _ _ _ => pdts_nil) (fun _ _ _ _ _ => (pd_ix (pd_var 5) (pd_op dop_mod (pd_var 6) (pd_callB cb_len T.b_len (by decide +kernel) (pda_cons (pd_var 5) pda_nil)))))) pda_nil))))))
theorem ok__law_word {P : Program} {wo : World} {K : PySem.W.Frag} {mg : Str → Option Value} {base : Heap} {f : Addr} {fd : FuncData} (T : Fx K mg) (F : FnP K "_law_word" s__law_word f fd) (c__law_draw : Cal P wo K mg base 1 "_law_draw" ["_law_tape_here", "_law_count"] sp__law_draw) (c__law_weight : Cal P wo K mg base 2 "_law_weight" ["_law_tape_here", "_law_high"] sp__law_weight) : FnG P wo K mg base CX0 3 f fd ["_law_tape_here", "_law_count", "_law_high"] (spD K sp__law_word) :=
  fnD false F sc__law_word len__law_word (fun cdv A outer s H E hr => d__law_word T c__law_draw c__law_weight hr) p__law_word
theorem d__law_right {P : Program} {wo : World} {K : PySem.W.Frag} {mg : Str → Option Value} {base : Heap} {f : Addr} {cdv : Value} {A : Around} {outer : List PySem.Env} {s : Shared} {H : Hp} {E : XK} (T : Fx K mg) (c__law_word : Cal P wo K mg base 3 "_law_word" ["_law_tape_here", "_law_count", "_law_high"] sp__law_word) (c_behind : Cal P wo K mg base 3 "behind" ["run", "word"] sp_behind) (c_layers : Cal P wo K mg base 6 "layers" ["word", "most"] sp_layers) (c_strip : Cal P wo K mg base 5 "strip" ["word", "most"] sp_strip) (c_spots : Cal P wo K mg base 1 "spots" ["run"] sp_spots) (c_is_whole : Cal P wo K mg base 3 "is_whole" ["run", "word"] sp_is_whole)
    (hr : RoomG 6 (A.deeper (envOfC "_law_right" (defScope s__law_right) s.heap.objs.size f cdv))) : PDSs (cxOf CX0 P wo K mg base N__law_right "_law_right" (defScope s__law_right) f cdv A outer s H E).nox (defBody s__law_right) t__law_right :=
    (pdss_cons (pds_par 2 3 rfl sc__law_right.nd (pda_cons (pd_callC c__law_word hr (pda_cons (pd_var 0) (pda_cons pd_int (pda_cons (pd_var 1) pda_nil)))) (pda_cons (pd_callC c__law_word hr (pda_cons (pd_var 0) (pda_cons pd_int (pda_cons (pd_var 1) pda_nil)))) pda_nil)))
    (pdss_cons (pds_set 4 sc__law_right.nd (pd_callC c_behind hr (pda_cons (pd_tup (pda_cons pd_int (pda_cons (pd_op dop_sub (pd_op dop_mul pd_int (pd_var 1)) pd_int) pda_nil))) (pda_cons (pd_var 2) pda_nil))))
    (pdss_cons (pds_set 5 sc__law_right.nd (pd_listR3 rfl T.b_list T.b_range (pd_ix (pd_var 4) pd_int) (pd_op dop_add (pd_ix (pd_var 4) pd_int) pd_int) pd_int))
    (pdss_cons (pds_par 6 7 rfl sc__law_right.nd (pda_cons (pd_callC c_layers hr (pda_cons (pd_var 2) (pda_cons (pd_var 1) pda_nil))) (pda_cons (pd_lc [("_law_last", 8), ("_law_changed", 9)] rfl sc__law_right.nd (pdi_any (pd_callC c_strip hr (pda_cons (pd_var 2) (pda_cons (pd_var 1) pda_nil)))) (blkOk_by (N := N__law_right) (sc := defScope s__law_right) (by decide +kernel)) (fun _ _ _ _ _ => (pdgo_tup rfl (pdgso_cons (pdgo_name 8 sc__law_right.nd) (pdgso_cons (pdgo_name 9 sc__law_right.nd) pdgso_nil)))) (fun _ _ _ _ _ => pdts_nil) (fun _ _ _ _ _ => (pd_var 8))) pda_nil)))
    (pdss_cons (pds_if (L2.PW.pt (pw_dor (pd_tcmp (dop_ne hr.units) (pd_lc [("_law_last", 8), ("_law_some", 10)] rfl sc__law_right.nd (pdi_any (pd_var 6)) (blkOk_by (N := N__law_right) (sc := defScope s__law_right) (by decide +kernel)) (fun _ _ _ _ _ => (pdgo_tup rfl (pdgso_cons (pdgo_name 8 sc__law_right.nd) (pdgso_cons (pdgo_name 10 sc__law_right.nd) pdgso_nil)))) (fun _ _ _ _ _ => pdts_nil) (fun _ _ _ _ _ => (pd_var 8))) (pd_var 5) (nomark _)) (pw_or1 (pd_tcmp (dop_ne hr.units) (pd_callB cb_len T.b_len (by decide +kernel) (pda_cons (pd_var 6) pda_nil)) (pd_callC c_spots hr (pda_cons (pd_var 4) pda_nil)) (nomark _))))) (pdss_one (pds_ret pd_bl)) pdss_nil)
    (pdss_cons (pds_set 11 sc__law_right.nd (pd_lst pda_nil))
    (pdss_cons (pds_for PassesOwn.never rfl (pdi_any (pd_var 6)) (pdg_tup rfl (pdgs_cons (pdg_name 8 sc__law_right.nd) (pdgs_cons (pdg_name 10 sc__law_right.nd) pdgs_nil))) (pdss_one (pds_set 11 sc__law_right.nd (pd_op dop_add (pd_var 11) (pd_callTy cb_list T.b_list (by decide +kernel) (pda_cons (pd_var 10) pda_nil))))))
    (pdss_cons (pds_if (pd_tcmp (dop_ne hr.units) (pd_callB cb_sorted T.b_sorted (by decide +kernel) (pda_cons (pd_var 11) pda_nil)) (pd_listR3 rfl T.b_list T.b_range pd_int (pd_op dop_mul pd_int (pd_var 1)) pd_int) (nomark _)) (pdss_one (pds_ret pd_bl)) pdss_nil)
    (pdss_cons (pds_if (pd_tru (pd_callB (cb_any rfl) T.b_any (by decide +kernel) (pda_cons (pd_lc [("_law_one", 12), ("_law_other", 13)] rfl sc__law_right.nd (pdi_zip T.b_zip (pd_var 7) (pd_cut sl_cut (pd_var 7) (pdo_some pd_int) pdo_none)) (blkOk_by (N := N__law_right) (sc := defScope s__law_right) (by decide +kernel)) (fun _ _ _ _ _ => (pdgo_tup rfl (pdgso_cons (pdgo_name 12 sc__law_right.nd) (pdgso_cons (pdgo_name 13 sc__law_right.nd) pdgso_nil)))) (fun _ _ _ _ _ => pdts_nil) (fun _ _ _ _ _ => (pd_cmp dop_gt (pd_callB cb_abs T.b_abs (by decide +kernel) (pda_cons (pd_op dop_sub (pd_var 12) (pd_var 13)) pda_nil)) pd_int (nomark _)))) pda_nil))) (pdss_one (pds_ret pd_bl)) pdss_nil)
    (pdss_cons (pds_set 14 sc__law_right.nd (pd_lc [("_law_last", 8), ("_law_changed", 9)] rfl sc__law_right.nd (pdi_any (pd_callC c_strip hr (pda_cons (pd_op dop_add (pd_var 2) (pd_var 3)) (pda_cons (pd_var 1) pda_nil)))) (blkOk_by (N := N__law_right) (sc := defScope s__law_right) (by decide +kernel)) (fun _ _ _ _ _ => (pdgo_tup rfl (pdgso_cons (pdgo_name 8 sc__law_right.nd) (pdgso_cons (pdgo_name 9 sc__law_right.nd) pdgso_nil)))) (fun _ _ _ _ _ => pdts_nil) (fun _ _ _ _ _ => (pd_var 8))))
    (pdss_cons (pds_for PassesOwn.never rfl (pdi_any (pd_var 6)) (pdg_tup rfl (pdgs_cons (pdg_name 8 sc__law_right.nd) (pdgs_cons (pdg_name 10 sc__law_right.nd) pdgs_nil))) (pdss_one (pds_if (pd_tcmp (dop_ne hr.units) (pd_lenSetZ rfl T.b_len T.b_set (by decide +kernel) (by decide +kernel) (pd_lc [("_law_size", 15)] rfl sc__law_right.nd (pdi_any (pd_var 10)) (blkOk_by (N := N__law_right) (sc := defScope s__law_right) (by decide +kernel)) (fun _ _ _ _ _ => (pdgo_name 15 sc__law_right.nd)) (fun _ _ _ _ _ => pdts_nil) (fun _ _ _ _ _ => (pd_ix (pd_var 14) (pd_op dop_div (pd_var 15) pd_int))))) pd_int (nomark _)) (pdss_one (pds_ret pd_bl)) pdss_nil)))
    (pdss_cons (pds_set 16 sc__law_right.nd (pd_lenSetZ rfl T.b_len T.b_set (by decide +kernel) (by decide +kernel) (pd_var 14)))
    (pdss_one (pds_ret (pd_ife (pd_tru (pd_callC c_is_whole hr (pda_cons (pd_var 4) (pda_cons (pd_var 3) pda_nil)))) (pd_cmp (dop_eq hr.units) (pd_var 16) (pd_callB cb_len T.b_len (by decide +kernel) (pda_cons (pd_var 5) pda_nil)) (nomark _)) (pd_cmp dop_lt (pd_var 16) (pd_callB cb_len T.b_len (by decide +kernel) (pda_cons (pd_var 5) pda_nil)) (nomark _)))))))))))))))))
theorem ok__law_right {P : Program} {wo : World} {K : PySem.W.Frag} {mg : Str → Option Value} {base : Heap} {f : Addr} {fd : FuncData} (T : Fx K mg) (F : FnP K "_law_right" s__law_right f fd) (c__law_word : Cal P wo K mg base 3 "_law_word" ["_law_tape_here", "_law_count", "_law_high"] sp__law_word) (c_behind : Cal P wo K mg base 3 "behind" ["run", "word"] sp_behind) (c_layers : Cal P wo K mg base 6 "layers" ["word", "most"] sp_layers) (c_strip : Cal P wo K mg base 5 "strip" ["word", "most"] sp_strip) (c_spots : Cal P wo K mg base 1 "spots" ["run"] sp_spots) (c_is_whole : Cal P wo K mg base 3 "is_whole" ["run", "word"] sp_is_whole) : FnG P wo K mg base CX0 7 f fd ["_law_tape_here", "_law_high"] (spD K sp__law_right) :=
  fnD false F sc__law_right len__law_right (fun cdv A outer s H E hr => d__law_right T c__law_word c_behind c_layers c_strip c_spots c_is_whole hr) p__law_right
theorem d_law {P : Program} {wo : World} {K : PySem.W.Frag} {mg : Str → Option Value} {base : Heap} {f : Addr} {cdv : Value} {A : Around} {outer : List PySem.Env} {s : Shared} {H : Hp} {E : XK} (T : Fx K mg) (c__law_folded : Cal P wo K mg base 1 "_law_folded" ["_law_script", "_law_count"] sp__law_folded) (c__law_tape : Cal P wo K mg base 1 "_law_tape" ["_law_script", "_law_k"] sp__law_tape) (c__law_right : Cal P wo K mg base 7 "_law_right" ["_law_tape_here", "_law_high"] sp__law_right) (c__law_draw : Cal P wo K mg base 1 "_law_draw" ["_law_tape_here", "_law_count"] sp__law_draw)
    (hr : RoomG 7 (A.deeper (envOfC "law" (defScope s_law) s.heap.objs.size f cdv))) : PDSs (cxOf CX0 P wo K mg base N_law "law" (defScope s_law) f cdv A outer s H E).nox (defBody s_law) t_law :=
    (pdss_cons (pds_set 1 sc_law.nd (pd_ife (pd_tcmp (dop_ne hr.units) (pd_var 0) (pd_lst pda_nil) (nomark _)) (pd_callC c__law_folded hr (pda_cons (pd_var 0) (pda_cons pd_int pda_nil))) (pd_lst (pda_cons pd_int pda_nil))))
    (pdss_cons (pds_for PassesOwn.never rfl (pdi_range1 T.b_range (pd_callB cb_len T.b_len (by decide +kernel) (pda_cons (pd_var 1) pda_nil))) (pdg_name 2 sc_law.nd) (pdss_cons (pds_set 3 sc_law.nd (pd_callC c__law_tape hr (pda_cons (pd_var 1) (pda_cons (pd_var 2) pda_nil))))
    (pdss_one (pds_for PassesOwn.never rfl (pdi_range1 T.b_range pd_int) (pdg_name 4 sc_law.nd) (pdss_one (pds_if (pd_tnot (pd_tru (pd_callC c__law_right hr (pda_cons (pd_var 3) (pda_cons (pd_op dop_add pd_int (pd_callC c__law_draw hr (pda_cons (pd_var 3) (pda_cons pd_int pda_nil)))) pda_nil))))) (pdss_one (pds_ret pd_bl)) pdss_nil))))))
    (pdss_one (pds_ret pd_bl))))
theorem ok_law {P : Program} {wo : World} {K : PySem.W.Frag} {mg : Str → Option Value} {base : Heap} {f : Addr} {fd : FuncData} (T : Fx K mg) (F : FnP K "law" s_law f fd) (c__law_folded : Cal P wo K mg base 1 "_law_folded" ["_law_script", "_law_count"] sp__law_folded) (c__law_tape : Cal P wo K mg base 1 "_law_tape" ["_law_script", "_law_k"] sp__law_tape) (c__law_right : Cal P wo K mg base 7 "_law_right" ["_law_tape_here", "_law_high"] sp__law_right) (c__law_draw : Cal P wo K mg base 1 "_law_draw" ["_law_tape_here", "_law_count"] sp__law_draw) : FnG P wo K mg base CX0 8 f fd ["_law_script"] (spD K sp_law) :=
  fnD false F sc_law len_law (fun cdv A outer s H E hr => d_law T c__law_folded c__law_tape c__law_right c__law_draw hr) p_law
def q_lighter : He.DefD := ⟨("lighter", none), "lighter", "lighter", defArgs s_lighter, defBody s_lighter, defScope s_lighter, [], []⟩
def q_laid_on : He.DefD := ⟨("laid_on", none), "laid_on", "laid_on", defArgs s_laid_on, defBody s_laid_on, defScope s_laid_on, [], []⟩
def q_fall : He.DefD := ⟨("fall", none), "fall", "fall", defArgs s_fall, defBody s_fall, defScope s_fall, [], []⟩
def q_falls : He.DefD := ⟨("falls", none), "falls", "falls", defArgs s_falls, defBody s_falls, defScope s_falls, [], []⟩
def q_spot_of : He.DefD := ⟨("spot_of", none), "spot_of", "spot_of", defArgs s_spot_of, defBody s_spot_of, defScope s_spot_of, [], []⟩
def q_strip : He.DefD := ⟨("strip", none), "strip", "strip", defArgs s_strip, defBody s_strip, defScope s_strip, [], []⟩
def q_layers : He.DefD := ⟨("layers", none), "layers", "layers", defArgs s_layers, defBody s_layers, defScope s_layers, [], []⟩
def q_spots : He.DefD := ⟨("spots", none), "spots", "spots", defArgs s_spots, defBody s_spots, defScope s_spots, [], []⟩
def q_parts : He.DefD := ⟨("parts", none), "parts", "parts", defArgs s_parts, defBody s_parts, defScope s_parts, [], []⟩
def q_folded : He.DefD := ⟨("folded", none), "folded", "folded", defArgs s_folded, defBody s_folded, defScope s_folded, [], []⟩
def q_behind : He.DefD := ⟨("behind", none), "behind", "behind", defArgs s_behind, defBody s_behind, defScope s_behind, [], []⟩
def q_is_whole : He.DefD := ⟨("is_whole", none), "is_whole", "is_whole", defArgs s_is_whole, defBody s_is_whole, defScope s_is_whole, [], []⟩
def q__law_tape : He.DefD := ⟨("_law_tape", none), "_law_tape", "_law_tape", defArgs s__law_tape, defBody s__law_tape, defScope s__law_tape, [], []⟩
def q__law_draw : He.DefD := ⟨("_law_draw", none), "_law_draw", "_law_draw", defArgs s__law_draw, defBody s__law_draw, defScope s__law_draw, [], []⟩
def q__law_folded : He.DefD := ⟨("_law_folded", none), "_law_folded", "_law_folded", defArgs s__law_folded, defBody s__law_folded, defScope s__law_folded, [], []⟩
def q__law_weight : He.DefD := ⟨("_law_weight", none), "_law_weight", "_law_weight", defArgs s__law_weight, defBody s__law_weight, defScope s__law_weight, [], []⟩
def q__law_word : He.DefD := ⟨("_law_word", none), "_law_word", "_law_word", defArgs s__law_word, defBody s__law_word, defScope s__law_word, [], []⟩
def q__law_right : He.DefD := ⟨("_law_right", none), "_law_right", "_law_right", defArgs s__law_right, defBody s__law_right, defScope s__law_right, [], []⟩
def q_law : He.DefD := ⟨("law", none), "law", "law", defArgs s_law, defBody s_law, defScope s_law, [], []⟩
def fn : List He.DefD := [q_lighter, q_laid_on, q_fall, q_falls, q_spot_of, q_strip, q_layers, q_spots, q_parts, q_folded, q_behind, q_is_whole, q__law_tape, q__law_draw, q__law_folded, q__law_weight, q__law_word, q__law_right, q_law]
def fa : List He.Fa := [.glo "lighter", .glo "laid_on", .glo "fall", .glo "falls", .glo "spot_of", .glo "strip", .glo "layers", .glo "spots", .glo "parts", .glo "folded", .glo "behind", .glo "is_whole", .glo "_law_tape", .glo "_law_draw", .glo "_law_folded", .glo "_law_weight", .glo "_law_word", .glo "_law_right", .glo "law", .str "LEFT" "left", .str "RIGHT" "right", .free "abs", .free "range", .free "enumerate", .free "sorted", .free "tuple", .free "max", .free "len", .free "int", .free "list", .free "min", .free "any", .free "zip", .free "set"]
def ex : List (PySem.W.Frag → Bool) := []
abbrev R : PySem.W.OpenRow := PySem.W.OpenLaw.row PySem.Challenge.rw_panfalls_k38_whole_layers_by_runs
abbrev hk : PySem.W.Hook := hookX 4 ex fa fn
def ob (s : PySem.W.SharedT) : AlX := obsXG 4 ex fa fn (HandSHeadRun.getT s)
theorem ob_eq (s : PySem.W.SharedT) : ob s = hk.obs s.abs := obsXG_eq (HandSHeadRun.getT_eq s)
def lo0 : List Str := ["LEFT", "RIGHT", "lighter", "laid_on", "fall", "falls", "spot_of", "strip", "layers", "spots", "parts", "folded", "behind", "is_whole", "_law_tape", "_law_draw", "_law_folded", "_law_weight", "_law_word", "_law_right"]
def loose : List Str := lo0
theorem run (w : World) : HandSHeadRun.RunEq R (PySem.W.view R.prog [24]) hk ob 1900 loose w := by
  intro os
  kernel_rfl
theorem facts {P : Program} {wo : World} {K : PySem.W.Frag} {h : Heap} {mg : Str → Option Value} {fx : Addr} (X : K.In h) (G : h.Ns mainGlobals mg) (hfa : mg ("law" : Str) = some (.ref fx)) (c : SaysX ex fa fn K) :
    ∃ fd : FuncData, (∀ (s : Shared) (v : Value), BindsTo s fd ⟨[v], []⟩ [("_law_script", v)]) ∧ ∀ base : Heap, K.In base → base.Ns mainGlobals mg → FnG P wo K mg base CX0 8 fx fd ["_law_script"] (spD K spLaw) := by
  obtain ⟨fd0, F0⟩ := c.d.def_ 0 (d := q_lighter) rfl
  obtain ⟨fd1, F1⟩ := c.d.def_ 1 (d := q_laid_on) rfl
  obtain ⟨fd2, F2⟩ := c.d.def_ 2 (d := q_fall) rfl
  obtain ⟨fd3, F3⟩ := c.d.def_ 3 (d := q_falls) rfl
  obtain ⟨fd4, F4⟩ := c.d.def_ 4 (d := q_spot_of) rfl
  obtain ⟨fd5, F5⟩ := c.d.def_ 5 (d := q_strip) rfl
  obtain ⟨fd6, F6⟩ := c.d.def_ 6 (d := q_layers) rfl
  obtain ⟨fd7, F7⟩ := c.d.def_ 7 (d := q_spots) rfl
  obtain ⟨fd8, F8⟩ := c.d.def_ 8 (d := q_parts) rfl
  obtain ⟨fd9, F9⟩ := c.d.def_ 9 (d := q_folded) rfl
  obtain ⟨fd10, F10⟩ := c.d.def_ 10 (d := q_behind) rfl
  obtain ⟨fd11, F11⟩ := c.d.def_ 11 (d := q_is_whole) rfl
  obtain ⟨fd12, F12⟩ := c.d.def_ 12 (d := q__law_tape) rfl
  obtain ⟨fd13, F13⟩ := c.d.def_ 13 (d := q__law_draw) rfl
  obtain ⟨fd14, F14⟩ := c.d.def_ 14 (d := q__law_folded) rfl
  obtain ⟨fd15, F15⟩ := c.d.def_ 15 (d := q__law_weight) rfl
  obtain ⟨fd16, F16⟩ := c.d.def_ 16 (d := q__law_word) rfl
  obtain ⟨fd17, F17⟩ := c.d.def_ 17 (d := q__law_right) rfl
  obtain ⟨fd18, F18⟩ := c.d.def_ 18 (d := q_law) rfl
  have T : Fx K mg := ⟨He.str_ok X G (c.d.fact 19 rfl), He.str_ok X G (c.d.fact 20 rfl), He.free_ok X G (c.d.fact 21 (f := .free "abs") rfl), He.free_ok X G (c.d.fact 22 (f := .free "range") rfl), He.free_ok X G (c.d.fact 23 (f := .free "enumerate") rfl), He.free_ok X G (c.d.fact 24 (f := .free "sorted") rfl), He.free_ok X G (c.d.fact 25 (f := .free "tuple") rfl), He.free_ok X G (c.d.fact 26 (f := .free "max") rfl), He.free_ok X G (c.d.fact 27 (f := .free "len") rfl), He.free_ok X G (c.d.fact 28 (f := .free "int") rfl), He.free_ok X G (c.d.fact 29 (f := .free "list") rfl), He.free_ok X G (c.d.fact 30 (f := .free "min") rfl), He.free_ok X G (c.d.fact 31 (f := .free "any") rfl), He.free_ok X G (c.d.fact 32 (f := .free "zip") rfl), He.free_ok X G (c.d.fact 33 (f := .free "set") rfl)⟩
  have e := hfa.symm.trans (He.glo_ok X G (c.d.fact 18 (f := .glo "law") rfl))
  cases e
  have b := FunD.bindsA (ps := ["_law_script"]) F18 fun _ _ _ _ _ _ us hl => match us, hl with | [_], _ => rfl
  refine ⟨fd18, fun s v => b s [v] rfl, fun base _ _ => ?_⟩
  have o_lighter := ok_lighter (P := P) (wo := wo) (base := base) T F0 
  have c_lighter : Cal P wo K mg base 1 "lighter" ["standing"] sp_lighter := ⟨_, _, (He.glo_ok X G (c.d.fact 0 (f := .glo "lighter") rfl)), F0.kp, o_lighter, F0.bindsN (fun _ _ _ _ _ _ us hl => match us, hl with | [_], _ => rfl)⟩
  have o_laid_on := ok_laid_on (P := P) (wo := wo) (base := base) T F1 
  have c_laid_on : Cal P wo K mg base 1 "laid_on" ["standing", "side", "weight"] sp_laid_on := ⟨_, _, (He.glo_ok X G (c.d.fact 1 (f := .glo "laid_on") rfl)), F1.kp, o_laid_on, F1.bindsN (fun _ _ _ _ _ _ us hl => match us, hl with | [_, _, _], _ => rfl)⟩
  have o_fall := ok_fall (P := P) (wo := wo) (base := base) T F2 c_lighter c_laid_on
  have c_fall : Cal P wo K mg base 2 "fall" ["standing", "weight"] sp_fall := ⟨_, _, (He.glo_ok X G (c.d.fact 2 (f := .glo "fall") rfl)), F2.kp, o_fall, F2.bindsN (fun _ _ _ _ _ _ us hl => match us, hl with | [_, _], _ => rfl)⟩
  have o_falls := ok_falls (P := P) (wo := wo) (base := base) T F3 c_fall
  have c_falls : Cal P wo K mg base 3 "falls" ["standing", "word"] sp_falls := ⟨_, _, (He.glo_ok X G (c.d.fact 3 (f := .glo "falls") rfl)), F3.kp, o_falls, F3.bindsN (fun _ _ _ _ _ _ us hl => match us, hl with | [_, _], _ => rfl)⟩
  have o_spot_of := ok_spot_of (P := P) (wo := wo) (base := base) T F4 c_falls
  have c_spot_of : Cal P wo K mg base 4 "spot_of" ["word", "size"] sp_spot_of := ⟨_, _, (He.glo_ok X G (c.d.fact 4 (f := .glo "spot_of") rfl)), F4.kp, o_spot_of, F4.bindsN (fun _ _ _ _ _ _ us hl => match us, hl with | [_, _], _ => rfl)⟩
  have o_strip := ok_strip (P := P) (wo := wo) (base := base) T F5 c_spot_of
  have c_strip : Cal P wo K mg base 5 "strip" ["word", "most"] sp_strip := ⟨_, _, (He.glo_ok X G (c.d.fact 5 (f := .glo "strip") rfl)), F5.kp, o_strip, F5.bindsN (fun _ _ _ _ _ _ us hl => match us, hl with | [_, _], _ => rfl)⟩
  have o_layers := ok_layers (P := P) (wo := wo) (base := base) T F6 c_strip
  have c_layers : Cal P wo K mg base 6 "layers" ["word", "most"] sp_layers := ⟨_, _, (He.glo_ok X G (c.d.fact 6 (f := .glo "layers") rfl)), F6.kp, o_layers, F6.bindsN (fun _ _ _ _ _ _ us hl => match us, hl with | [_, _], _ => rfl)⟩
  have o_spots := ok_spots (P := P) (wo := wo) (base := base) T F7 
  have c_spots : Cal P wo K mg base 1 "spots" ["run"] sp_spots := ⟨_, _, (He.glo_ok X G (c.d.fact 7 (f := .glo "spots") rfl)), F7.kp, o_spots, F7.bindsN (fun _ _ _ _ _ _ us hl => match us, hl with | [_], _ => rfl)⟩
  have o_parts := ok_parts (P := P) (wo := wo) (base := base) T F8 
  have c_parts : Cal P wo K mg base 1 "parts" ["run", "weight"] sp_parts := ⟨_, _, (He.glo_ok X G (c.d.fact 8 (f := .glo "parts") rfl)), F8.kp, o_parts, F8.bindsN (fun _ _ _ _ _ _ us hl => match us, hl with | [_, _], _ => rfl)⟩
  have o_folded := ok_folded (P := P) (wo := wo) (base := base) T F9 c_parts
  have c_folded : Cal P wo K mg base 2 "folded" ["run", "weight"] sp_folded := ⟨_, _, (He.glo_ok X G (c.d.fact 9 (f := .glo "folded") rfl)), F9.kp, o_folded, F9.bindsN (fun _ _ _ _ _ _ us hl => match us, hl with | [_, _], _ => rfl)⟩
  have o_behind := ok_behind (P := P) (wo := wo) (base := base) T F10 c_folded
  have c_behind : Cal P wo K mg base 3 "behind" ["run", "word"] sp_behind := ⟨_, _, (He.glo_ok X G (c.d.fact 10 (f := .glo "behind") rfl)), F10.kp, o_behind, F10.bindsN (fun _ _ _ _ _ _ us hl => match us, hl with | [_, _], _ => rfl)⟩
  have o_is_whole := ok_is_whole (P := P) (wo := wo) (base := base) T F11 c_parts c_folded
  have c_is_whole : Cal P wo K mg base 3 "is_whole" ["run", "word"] sp_is_whole := ⟨_, _, (He.glo_ok X G (c.d.fact 11 (f := .glo "is_whole") rfl)), F11.kp, o_is_whole, F11.bindsN (fun _ _ _ _ _ _ us hl => match us, hl with | [_, _], _ => rfl)⟩
  have o__law_tape := ok__law_tape (P := P) (wo := wo) (base := base) T F12 
  have c__law_tape : Cal P wo K mg base 1 "_law_tape" ["_law_script", "_law_k"] sp__law_tape := ⟨_, _, (He.glo_ok X G (c.d.fact 12 (f := .glo "_law_tape") rfl)), F12.kp, o__law_tape, F12.bindsN (fun _ _ _ _ _ _ us hl => match us, hl with | [_, _], _ => rfl)⟩
  have o__law_draw := ok__law_draw (P := P) (wo := wo) (base := base) T F13 
  have c__law_draw : Cal P wo K mg base 1 "_law_draw" ["_law_tape_here", "_law_count"] sp__law_draw := ⟨_, _, (He.glo_ok X G (c.d.fact 13 (f := .glo "_law_draw") rfl)), F13.kp, o__law_draw, F13.bindsN (fun _ _ _ _ _ _ us hl => match us, hl with | [_, _], _ => rfl)⟩
  have o__law_folded := ok__law_folded (P := P) (wo := wo) (base := base) T F14 
  have c__law_folded : Cal P wo K mg base 1 "_law_folded" ["_law_script", "_law_count"] sp__law_folded := ⟨_, _, (He.glo_ok X G (c.d.fact 14 (f := .glo "_law_folded") rfl)), F14.kp, o__law_folded, F14.bindsN (fun _ _ _ _ _ _ us hl => match us, hl with | [_, _], _ => rfl)⟩
  have o__law_weight := ok__law_weight (P := P) (wo := wo) (base := base) T F15 c__law_draw
  have c__law_weight : Cal P wo K mg base 2 "_law_weight" ["_law_tape_here", "_law_high"] sp__law_weight := ⟨_, _, (He.glo_ok X G (c.d.fact 15 (f := .glo "_law_weight") rfl)), F15.kp, o__law_weight, F15.bindsN (fun _ _ _ _ _ _ us hl => match us, hl with | [_, _], _ => rfl)⟩
  have o__law_word := ok__law_word (P := P) (wo := wo) (base := base) T F16 c__law_draw c__law_weight
  have c__law_word : Cal P wo K mg base 3 "_law_word" ["_law_tape_here", "_law_count", "_law_high"] sp__law_word := ⟨_, _, (He.glo_ok X G (c.d.fact 16 (f := .glo "_law_word") rfl)), F16.kp, o__law_word, F16.bindsN (fun _ _ _ _ _ _ us hl => match us, hl with | [_, _, _], _ => rfl)⟩
  have o__law_right := ok__law_right (P := P) (wo := wo) (base := base) T F17 c__law_word c_behind c_layers c_strip c_spots c_is_whole
  have c__law_right : Cal P wo K mg base 7 "_law_right" ["_law_tape_here", "_law_high"] sp__law_right := ⟨_, _, (He.glo_ok X G (c.d.fact 17 (f := .glo "_law_right") rfl)), F17.kp, o__law_right, F17.bindsN (fun _ _ _ _ _ _ us hl => match us, hl with | [_, _], _ => rfl)⟩
  exact ok_law T F18 c__law_folded c__law_tape c__law_right c__law_draw
end LW
set_option maxHeartbeats 0
open PySem PySem.W PySem.Calls PyProof.Rows
theorem PySem.Challenge.cw_panfalls_k38_whole_layers_by_runs_holds : PySem.Challenge.rw_panfalls_k38_whole_layers_by_runs.Holds := by
  w_on; o_law
  refine HandSHeadRun.head_any (r := OpenLaw.row PySem.Challenge.rw_panfalls_k38_whole_layers_by_runs) (q := view (OpenLaw.row PySem.Challenge.rw_panfalls_k38_whole_layers_by_runs).prog [24]) (H := LW.hk) (ob := LW.ob) (M := 1900) (loose := LW.loose) (d := HandSHeadRun.topDef (OpenLaw.row PySem.Challenge.rw_panfalls_k38_whole_layers_by_runs).prog 24) (kwd := []) LW.ob_eq
    (by kernel_rfl) (fun s => by kernel_rfl) LW.run (by kernel_rfl) (by kernel_rfl) (by kernel_rfl) (by rfl) (by first | assumption | decide +kernel) (by decide +kernel) ⟨rfl, rfl, rfl, rfl, rfl, by decide +kernel⟩ ?hw ?hc
  case hw => w_witness2
  case hc =>
    refine DL.law_end (l := PySem.Challenge.rw_panfalls_k38_whole_layers_by_runs) (k := 8) (x := "_law_script") rfl (by kernel_rfl) ⟨⟨rfl, by decide, by decide⟩, rfl⟩ ?F
    intro w mg fa h Y G hmg0
    obtain ⟨K, KX, c⟩ := Y
    have hmg : mg ("law" : PySem.Str) = some (.ref fa) := by
      have e : (HandSHeadRun.topDef (OpenLaw.row PySem.Challenge.rw_panfalls_k38_whole_layers_by_runs).prog 24).name = ("law" : PySem.Str) := by kernel_rfl
      rw [← e]
      exact hmg0
    obtain ⟨fd, hb, hF⟩ := LW.facts (P := (PySem.Challenge.rw_panfalls_k38_whole_layers_by_runs).prog) (wo := w) KX G hmg c
    exact ⟨K, fd, KX, hb, hF⟩
