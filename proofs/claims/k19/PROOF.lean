import PyProof.Rows.All
import Wide.All
import OpenK.AllK
import Wide.FinOn
import HandS.More
import HandS.Words
import HandS.Head0
import HandS.Head1
import HandS.Head2
import HandS.HeadEnd
import HandS.HeadHook1
import HandS.HeadHook2
import HandS.HeadHook3
import HandS.HeadHook4
import HandS.HeadWalk
import HandS.ForMost
import HandS.Lambda
import HandS.Wide
import PyProof.Rows.SeqMore
import HandS.WideBits
import HandS.TupAny
import HandS.TupLe
import HandS.IsInst
import HandS.Style
import HandS.SetFor
import HandS.SetTxtIn
import HandS.SetTxt0
import HandS.Strs
import HandS.DictComp
import HandS.Replace
import PyProof.StrLawsIn
import PyProof.StrLawsLast
import HandS.Defaults
import KE.GoesMore
import KE.GoesEnum
import PyProof.ListStr
import PyProof.CollectStr
import PyProof.SumWalkG
import PyProof.WalksMore
import PyProof.StrLawsReplace
import PyProof.ToksMono
import PyProof.SliceStr2
import HandS.Nested
import HandS.Keys
import KE.SortKeyHeap
import KE.SortData
import KE.DataMinMax
import KE.KRevSl
import HandS.Star
import HandS.Small
import HandS.CallLocal
import HandS.Zip
import KE.KDictWalk
import KE.GoesZip
import HandS.Conv
import KE.KDictZip
import KE.KDictExact
import KE.KDictList
import PyProof.StrOps2
import PyProof.ListMulRight
import PyProof.AutoIntG3
import HandS.Deep
import PySem.Challenge.RW_bandhems_k19_whole_plain_forms
set_option Elab.async false
set_option linter.all false
set_option maxRecDepth 100000
/-! Hd: the head by facts, what needs no layer (to stand first in a joined text). -/
namespace G
open PySem PySem.Spec PySem.W PySem.Calls PyProof.Rows L2
def S (s : List Nat) : Str := ⟨s.toArray⟩
section
variable {K : PySem.W.Frag}
def tupAtB (K : PySem.W.Frag) (a : Addr) (vs : List V) : Bool := match K.lookup a with
  | some ⟨.type c, _, .seq its _, _⟩ => decide (c = "tuple") && (decide (its.size ≤ sizeLine) && He.relAll vs its.toList)
  | _ => false
/-- at a key of a table: nothing; a def of the module; a pair of a number and a def -/
inductive Tv where
  | none | fn (y : Str) | two (i : Int) (y : Str)
def Tv.ok (K : PySem.W.Frag) (d : Addr) (k : Str) : Tv → Bool
  | .none => He.eqO (PySem.W.nsIn K d k) (some Option.none)
  | .fn y => He.eqO (PySem.W.nsIn K d k) (some (some (.ref (He.ga K y))))
  | .two i y => match PySem.W.nsIn K d k with
    | some (some (.ref t)) => tupAtB K t [.int i, .ref (He.ga K y)]
    | _ => false
/-- the head's run -/
noncomputable abbrev Ef (r : PySem.W.OpenRow) (M : Nat) (w : World) (os : OsState) : Option PySem.W.SharedT := HandSHeadRun.endF (HandSHeadRun.stepQ (HandSHeadRun.denQ HandSHeadRun.tabQ) r.prog w) M r.prog w os
/-! ### the things that are told, by a list of addresses: the names' and what they lead to -/
def asZ (xs : List Str) (g : Addr → Option Obj) : List Addr := mainGlobals :: ((xs.map (He.ga (He.frG g [mainGlobals]))) ++ (xs.map (He.ga (He.frG g [mainGlobals]))).flatMap fun a => match g a with
  | some o => He.refsD o
  | none => [])
def obsZ (xs : List Str) (fa : List He.Fa) (fn : List He.DefD) (ts : List He.Tab) (tf : List He.Defn) (ex : PySem.W.Frag → Bool) (g : Addr → Option Obj) : He.AlX := (He.obsT fa fn ts (He.frT g (asZ xs g)), ex (He.frT g (asZ xs g)) && He.tabsB g tf (He.frT g (asZ xs g)))
theorem saysZ_of {xs : List Str} {fa : List He.Fa} {fn : List He.DefD} {ts : List He.Tab} {tf : List He.Defn} {ex : PySem.W.Frag → Bool} {w : World} {h : Heap} (e : obsZ xs fa fn ts tf ex h.get? = He.valX fn ts w) : He.SaysX fa fn ts tf ex w h (He.frT h.get? (asZ xs h.get?)) := by
  have e1 : He.obsT fa fn ts (He.frT h.get? (asZ xs h.get?)) = He.valT fn ts w := congrArg (fun z : He.AlX => z.1) e
  have e2 : (ex (He.frT h.get? (asZ xs h.get?)) && He.tabsB h.get? tf (He.frT h.get? (asZ xs h.get?))) = true := congrArg (fun z : He.AlX => z.2) e
  obtain ⟨h1, h2⟩ := He.ba e2
  have key : ∀ p ∈ tf, PySem.W.codeHdIn (He.frT h.get? (asZ xs h.get?)) (He.cT (He.frT h.get? (asZ xs h.get?)) p).1 (He.cT (He.frT h.get? (asZ xs h.get?)) p).2 = true ∧ ∃ o, h.get? (He.cT (He.frT h.get? (asZ xs h.get?)) p).2 = some o ∧ He.emptyTab o = true := fun p hp => by
    obtain ⟨h3, h4⟩ := He.ba (List.all_eq_true.mp h2 p hp)
    refine ⟨h3, ?_⟩
    cases q : h.get? (He.cT (He.frT h.get? (asZ xs h.get?)) p).2 with
    | none =>
      rw [q] at h4
      cases h4
    | some o =>
      rw [q] at h4
      exact ⟨o, rfl, h4⟩
  exact ⟨e1, h1, fun p hp => (key p hp).1, fun p hp => by
    obtain ⟨_, o, q, z⟩ := key p hp
    exact He.frT_none q z, fun p hp => by
    obtain ⟨_, o, q, z⟩ := key p hp
    rw [q, He.emptyTab_eq z]⟩
def hookZ (xs : List Str) (fa : List He.Fa) (fn : List He.DefD) (ts : List He.Tab) (tf : List He.Defn) (ex : PySem.W.Frag → Bool) : PySem.W.Hook where
  α := He.AlX
  obs := fun s => obsZ xs fa fn ts tf ex s.heap.get?
  val := fun w => He.valX fn ts w
  says := fun w h => ∃ K : PySem.W.Frag, K.In h ∧ He.SaysX fa fn ts tf ex w h K
  of := fun _ _ e => ⟨_, He.frT_in, saysZ_of e⟩
  keeps := fun _ _ _ ⟨K, hK, c⟩ k => ⟨K, PySem.W.Frag.In.keeps hK k, ⟨c.t, c.more, c.hd, c.out, fun p hp => k _ _ (c.empty p hp)⟩⟩
theorem obsZ_eq {xs : List Str} {fa : List He.Fa} {fn : List He.DefD} {ts : List He.Tab} {tf : List He.Defn} {ex : PySem.W.Frag → Bool} {g : Addr → Option Obj} {s : Shared} (h : ∀ a, g a = s.heap.get? a) : obsZ xs fa fn ts tf ex g = (hookZ xs fa fn ts tf ex).obs s := by
  have e : g = s.heap.get? := funext h
  rw [e]
  rfl
/-! ### the looks without the names -/
def looksR (mods : List Str) (h0 : Heap) (s : Shared) : Bool := staticsOk mods h0 s.heap && (gensDone s && laidKept h0 s.heap)
def boundB (p : Program) (k : Str) : Bool := startupNames.contains k || p.boundNames.contains k
def keyB (q : Program) (loose : List Str) (k : Str) : Bool := startupNames.contains k || (looseW q loose).contains k || ((recsOf q).map (·.name)).contains k || ((litsOf q).map (·.1)).contains k || ((clssOf q (looseW q loose)).map (·.name)).contains k
theorem looks_of {p : Program} {h0 : Heap} {s : Shared} {L : List Str} (h1 : looksR (importedModules p.main.body) h0 s = true) (h2 : s.heap.isNs mainGlobals = true) (h3 : s.heap.nsKeys mainGlobals = L) (h4 : L.all (boundB p) = true) : HandSHeadRun.looksF p h0 s = true := by
  unfold looksR at h1
  rw [Bool.and_eq_true, Bool.and_eq_true] at h1
  have hb : namesBound p s.heap = true := by
    unfold namesBound
    rw [h2, h3]
    exact h4
  unfold HandSHeadRun.looksF
  rw [h1.1, hb, h1.2.1, h1.2.2]
  rfl
noncomputable def seenR (q : Program) (loose mods : List Str) (Xt : Shared → Bool) (s : Shared) :=
  ((HandSHeadRun.seenQ q loose mods Xt s).1, (HandSHeadRun.seenQ q loose mods Xt s).2.1,
   s.heap.accountedOkI mods && (s.heap.isNs mainGlobals && (s.heap.isNs builtinsNs && (tablesOk q s.heap && (Xt s && s.gens.size == 0)))),
   (HandSHeadRun.seenQ q loose mods Xt s).2.2.2)
theorem seen_of {q : Program} {loose mods : List Str} {Xt : Shared → Bool} {s : Shared} {L : List Str} (h1 : seenR q loose mods Xt s = ((openGood q loose).1, (openGood q loose).2.1, true, (openGood q loose).2.2.2)) (h3 : s.heap.nsKeys mainGlobals = L) (h4 : L.all (keyB q loose) = true) : HandSHeadRun.seenQ q loose mods Xt s = openGood q loose := by
  unfold seenR at h1
  rw [← HandSHeadRun.seenQ_eq] at h1 ⊢
  simp only [Prod.mk.injEq] at h1
  obtain ⟨a1, a2, a3, a4⟩ := h1
  have hk : s.heap.keysOk (looseW q loose) ((recsOf q).map (·.name)) ((litsOf q).map (·.1)) ((clssOf q (looseW q loose)).map (·.name)) = true := by
    unfold Heap.keysOk
    rw [h3]
    exact h4
  simp only [Bool.and_eq_true] at a3
  refine Prod.ext a1 (Prod.ext a2 (Prod.ext ?_ a4))
  unfold openSeen openGood
  show (_ && _ && _ && _ && _ && _ && _) = true
  rw [hk, a3.1, a3.2.1, a3.2.2.1, a3.2.2.2.1, a3.2.2.2.2.1]
  simpa using a3.2.2.2.2.2
theorem run_two {r : PySem.W.OpenRow} {q : Program} {xs : List Str} {fa : List He.Fa} {fn : List He.DefD} {ts : List He.Tab} {tf : List He.Defn} {ex : PySem.W.Frag → Bool} {M : Nat} {loose : List Str} {w : World} {L : List Str}
    (h1 : ∀ os, (Ef r M w os).map (fun s => (looksR (importedModules r.prog.main.body) (boot_heap w.params) s.abs, s.abs.heap.isNs mainGlobals, s.abs.heap.nsKeys mainGlobals, seenR q loose (importedModules r.prog.main.body) (fun s => PySem.W.xlAt q [] s && PySem.W.recOk r.toRowW.records s) s.abs)) = some (true, true, L, ((openGood q loose).1, (openGood q loose).2.1, true, (openGood q loose).2.2.2)))
    (h2 : ∀ os, (Ef r M w os).map (fun s => obsZ xs fa fn ts tf ex (HandSHeadRun.getT s)) = some (He.valX fn ts w))
    (h3 : L.all (boundB r.prog) = true) (h4 : L.all (keyB q loose) = true) :
    HandSHeadRun.RunEq r q (hookZ xs fa fn ts tf ex) (fun s => obsZ xs fa fn ts tf ex (HandSHeadRun.getT s)) M loose w := by
  intro os
  have e1 := h1 os
  have e2 := h2 os
  show (Ef r M w os).map _ = _
  generalize Ef r M w os = o at e1 e2
  cases o with
  | none => cases e1
  | some s =>
    simp only [Option.map_some, Option.some.injEq, Prod.mk.injEq] at e1 e2
    obtain ⟨a1, a2, a3, a4⟩ := e1
    exact congrArg some (Prod.ext (looks_of a1 a2 a3 h3) (Prod.ext (seen_of a4 a3 h4) e2))
end
end G

/-! Ly1: pure data D, owned trees T, what represents them in an abstract heap, what stays. -/
namespace G
open PySem L2

/-- the classes by number; the tables of code objects, each with the name that its code objects bear -/
structure Cm where
  c : Nat → Addr
  T : List (Addr × Str)
instance : CoeFun Cm (fun _ => Nat → Addr) := ⟨Cm.c⟩
/-- a thing that is no table -/
abbrev NT (o : HO) : Prop := ∀ ps, o ≠ .tbl ps
/-- a thing that may be stored over: no table, no code object -/
abbrev Pl (u : HO) : Prop := NT u ∧ ∀ φ, u ≠ .ext φ
theorem tabs_upd {T : List (Addr × Str)} {H : Hp} {p : Addr} {u o : HO} (t : LamX.Tabs T H) (e : H p = some u) (n : Pl u) : LamX.Tabs T (upd H p o) := fun q hq => by
  obtain ⟨ps, h1, h2, h3⟩ := t q hq
  refine ⟨ps, ?_, h2, fun pos cv hc => ?_⟩
  · rw [upd_ne (fun z => n.1 ps (Option.some.inj (e.symm.trans (by rw [← z]; exact h1))))]
    exact h1
  · obtain ⟨c, e1, e2⟩ := h3 pos cv hc
    refine ⟨c, e1, ?_⟩
    rw [upd_ne (fun z => n.2 _ (Option.some.inj (e.symm.trans (by rw [← z]; exact e2))))]
    exact e2
theorem pl_lst {xs : List V} : Pl (.lst xs) := ⟨fun _ z => (nomatch z), fun _ z => (nomatch z)⟩
theorem pl_dK {xs : List (Key × V)} : Pl (.dK xs) := ⟨fun _ z => (nomatch z), fun _ z => (nomatch z)⟩
theorem pl_dT {xs : List (List Key × V)} : Pl (.dT xs) := ⟨fun _ z => (nomatch z), fun _ z => (nomatch z)⟩
theorem pl_frz {o : Obj} {u : HO} : Pl (.frz o u) := ⟨fun _ z => (nomatch z), fun _ z => (nomatch z)⟩
inductive DK where
  | i (n : Int) | s (t : List Nat)
  deriving DecidableEq, Repr

inductive D where
  | non | bl (b : Bool) | int (i : Int) | str (s : List Nat)
  | tup (ds : List D) | lst (ds : List D) | dic (kvs : List (DK × D)) | dit (kvs : List (List DK × D))
  | obj (c : Nat) (fs : List (Str × D)) | fn (n : Nat)

theorem S_inj {a b : List Nat} (h : S a = S b) : a = b := by
  have : (S a).cps.toList = (S b).cps.toList := by rw [h]
  simpa [S] using this
theorem S_len (s : List Nat) : (S s).length = s.length := by simp [S, Str.length]
theorem S_cps (s : List Nat) : (S s).cps.toList = s := by simp [S]
theorem S_of (x : Str) : x = S x.cps.toList := by cases x; simp [S]

def DK.k : DK → Key
  | .i n => .inl n
  | .s t => .inr (S t)
theorem DK.k_inj {a b : DK} (h : a.k = b.k) : a = b := by
  cases a <;> cases b <;> simp [DK.k] at h
  · rw [h]
  · rw [S_inj h]
def DK.d : DK → D
  | .i n => .int n
  | .s t => .str t

abbrev AS := Addr → Prop

/-- a list that stands and is none of those that change -/
def KL (K : PySem.W.Frag) (a : Addr) (xs : List V) : Prop := ∃ (o : Obj) (its : Array Value) (n : Nat), K.lookup a = some o ∧ o.cls = .type "list" ∧ o.dict = none ∧ o.data = .seq its n ∧ its.size ≤ sizeLine ∧ Vals xs its.toList
def KT (K : PySem.W.Frag) (a : Addr) (xs : List V) : Prop := ∃ (o : Obj) (its : Array Value) (n : Nat), K.lookup a = some o ∧ o.cls = .type "tuple" ∧ o.data = .seq its n ∧ its.size ≤ sizeLine ∧ Vals xs its.toList
def SL (K : PySem.W.Frag) (A : AS) (H : Hp) (a : Addr) (xs : List V) : Prop := (Rd H a (.lst xs) ∧ ¬ A a) ∨ KL K a xs
def ST (K : PySem.W.Frag) (A : AS) (H : Hp) (a : Addr) (xs : List V) : Prop := (H a = some (.tup xs) ∧ ¬ A a) ∨ KT K a xs
theorem SL.sq {K : PySem.W.Frag} {A : AS} {H : Hp} {a : Addr} {xs : List V} (h : SL K A H a xs) : SqL K H a xs := h.imp (·.1) id
theorem ST.sq {K : PySem.W.Frag} {A : AS} {H : Hp} {a : Addr} {xs : List V} (h : ST K A H a xs) : SqT K H a xs := h.imp (fun z => .inl z.1) id

mutual
/-- the value v stands for d; nothing that it leads to is in A -/
inductive Rp (K : PySem.W.Frag) (cm : Cm) (A : AS) (H : Hp) : V → D → Prop
  | non : Rp K cm A H .non .non
  | bl (b : Bool) : Rp K cm A H (.bl b) (.bl b)
  | int (i : Int) : Rp K cm A H (.int i) (.int i)
  | str (s : List Nat) : Rp K cm A H (.str (S s)) (.str s)
  | tup {a : Addr} {xs : List V} {ds : List D} : ST K A H a xs → RpL K cm A H xs ds → Rp K cm A H (.ref a) (.tup ds)
  | lst {a : Addr} {xs : List V} {ds : List D} : SL K A H a xs → RpL K cm A H xs ds → Rp K cm A H (.ref a) (.lst ds)
  | dic {a : Addr} {ks : List (Key × V)} {kvs : List (DK × D)} : Rd H a (.dK ks) → ¬ A a → RpK K cm A H ks kvs → Rp K cm A H (.ref a) (.dic kvs)
  | dit {a : Addr} {ks : List (List Key × V)} {kvs : List (List DK × D)} : Rd H a (.dT ks) → ¬ A a → RpU K cm A H ks kvs → Rp K cm A H (.ref a) (.dit kvs)
  | obj {a dx : Addr} {c : Nat} {gs : List (Str × V)} {fs : List (Str × D)} : H a = some (.ins (cm c) dx gs) → ¬ A a → RpF K cm A H gs fs → Rp K cm A H (.ref a) (.obj c fs)
  | fn (n : Nat) : Rp K cm A H (.ref (cm n)) (.fn n)
inductive RpL (K : PySem.W.Frag) (cm : Cm) (A : AS) (H : Hp) : List V → List D → Prop
  | nil : RpL K cm A H [] []
  | cons {v : V} {vs : List V} {d : D} {ds : List D} : Rp K cm A H v d → RpL K cm A H vs ds → RpL K cm A H (v :: vs) (d :: ds)
inductive RpK (K : PySem.W.Frag) (cm : Cm) (A : AS) (H : Hp) : List (Key × V) → List (DK × D) → Prop
  | nil : RpK K cm A H [] []
  | cons {k : DK} {v : V} {d : D} {ks : List (Key × V)} {kvs : List (DK × D)} : Rp K cm A H v d → RpK K cm A H ks kvs → RpK K cm A H ((k.k, v) :: ks) ((k, d) :: kvs)
inductive RpU (K : PySem.W.Frag) (cm : Cm) (A : AS) (H : Hp) : List (List Key × V) → List (List DK × D) → Prop
  | nil : RpU K cm A H [] []
  | cons {k : List DK} {v : V} {d : D} {ks : List (List Key × V)} {kvs : List (List DK × D)} : Rp K cm A H v d → RpU K cm A H ks kvs → RpU K cm A H ((k.map DK.k, v) :: ks) ((k, d) :: kvs)
inductive RpF (K : PySem.W.Frag) (cm : Cm) (A : AS) (H : Hp) : List (Str × V) → List (Str × D) → Prop
  | nil : RpF K cm A H [] []
  | cons {f : Str} {v : V} {d : D} {gs : List (Str × V)} {fs : List (Str × D)} : Rp K cm A H v d → RpF K cm A H gs fs → RpF K cm A H ((f, v) :: gs) ((f, d) :: fs)
end

/-- from the state (A, H) to (A', H'): what is not in A stays as it is; what is new in A' is new in the heap -/
structure Later (A : AS) (H : Hp) (A' : AS) (H' : Hp) : Prop where
  st : ∀ a o, H a = some o → NT o → ¬ A a → H' a = some o
  nw : ∀ a, A' a → A a ∨ H a = none
  dm : ∀ a, H a ≠ none → H' a ≠ none
theorem Later.refl (A : AS) (H : Hp) : Later A H A H := ⟨fun _ _ h _ _ => h, fun _ h => .inl h, fun _ h => h⟩
theorem Later.trans {A A1 A2 : AS} {H H1 H2 : Hp} (x : Later A H A1 H1) (y : Later A1 H1 A2 H2) : Later A H A2 H2 :=
  ⟨fun a o h t n => y.st a o (x.st a o h t n) t fun z => (x.nw a z).elim n fun e => (by rw [h] at e; cases e),
   fun a z => (y.nw a z).elim (x.nw a) fun e => (by
    cases q : H a with
    | none => exact .inr rfl
    | some o => exact absurd e (x.dm a (by rw [q]; exact fun z => nomatch z))),
   fun a h => y.dm a (x.dm a h)⟩
theorem Later.same {A : AS} {H H' : Hp} (h : Same H H') : Later A H A H' :=
  ⟨fun a o e _ _ => h a o e, fun _ z => .inl z, fun a e => by
    cases q : H a with
    | none => exact absurd q e
    | some o => rw [h a o q]; exact fun z => nomatch z⟩
theorem Later.less {A A1 A2 : AS} {H H1 : Hp} (x : Later A H A1 H1) (h : ∀ a, A2 a → A1 a) : Later A H A2 H1 := ⟨x.st, fun a z => x.nw a (h a z), x.dm⟩

section
variable {K : PySem.W.Frag} {cm : Cm} {A A' : AS} {H H' : Hp}
theorem Later.rd {a : Addr} {u : HO} (l : Later A H A' H') (h : Rd H a u) (n : ¬ A a) (t : NT u := by intro _ z; cases z) : Rd H' a u ∧ ¬ A' a := by
  refine ⟨?_, fun z => (l.nw a z).elim n fun e => ?_⟩
  · rcases h with h | ⟨o, h⟩
    · exact .inl (l.st a _ h t n)
    · exact .inr ⟨o, l.st a _ h (fun _ z => nomatch z) n⟩
  · rcases h with h | ⟨o, h⟩ <;> rw [h] at e <;> cases e
theorem SL.later {a : Addr} {xs : List V} (l : Later A H A' H') (h : SL K A H a xs) : SL K A' H' a xs := h.imp (fun h => l.rd h.1 h.2) id
theorem ST.later {a : Addr} {xs : List V} (l : Later A H A' H') (h : ST K A H a xs) : ST K A' H' a xs := h.imp (fun h => ⟨l.st _ _ h.1 (fun _ z => nomatch z) h.2, (l.rd (.inl h.1) h.2).2⟩) id
mutual
theorem Rp.later (l : Later A H A' H') : ∀ {v : V} {d : D}, Rp K cm A H v d → Rp K cm A' H' v d
  | _, _, .non => .non
  | _, _, .bl b => .bl b
  | _, _, .int i => .int i
  | _, _, .str s => .str s
  | _, _, .tup h r => .tup (h.later l) (RpL.later l r)
  | _, _, .lst h r => .lst (h.later l) (RpL.later l r)
  | _, _, .dic h n r => .dic (l.rd h n).1 (l.rd h n).2 (RpK.later l r)
  | _, _, .dit h n r => .dit (l.rd h n).1 (l.rd h n).2 (RpU.later l r)
  | _, _, .obj h n r => .obj (l.st _ _ h (fun _ z => nomatch z) n) (l.rd (.inl h) n).2 (RpF.later l r)
  | _, _, .fn n => .fn n
theorem RpL.later (l : Later A H A' H') : ∀ {v : List V} {d : List D}, RpL K cm A H v d → RpL K cm A' H' v d
  | _, _, .nil => .nil
  | _, _, .cons h r => .cons (Rp.later l h) (RpL.later l r)
theorem RpK.later (l : Later A H A' H') : ∀ {v : List (Key × V)} {d : List (DK × D)}, RpK K cm A H v d → RpK K cm A' H' v d
  | _, _, .nil => .nil
  | _, _, .cons h r => .cons (Rp.later l h) (RpK.later l r)
theorem RpU.later (l : Later A H A' H') : ∀ {v : List (List Key × V)} {d : List (List DK × D)}, RpU K cm A H v d → RpU K cm A' H' v d
  | _, _, .nil => .nil
  | _, _, .cons h r => .cons (Rp.later l h) (RpU.later l r)
theorem RpF.later (l : Later A H A' H') : ∀ {v : List (Str × V)} {d : List (Str × D)}, RpF K cm A H v d → RpF K cm A' H' v d
  | _, _, .nil => .nil
  | _, _, .cons h r => .cons (Rp.later l h) (RpF.later l r)
end
theorem RpL.length : ∀ {vs : List V} {ds : List D}, RpL K cm A H vs ds → vs.length = ds.length
  | _, _, .nil => rfl
  | _, _, .cons _ r => by simp [r.length]
theorem RpL.get : ∀ {vs : List V} {ds : List D} {i : Nat} {d : D}, RpL K cm A H vs ds → ds[i]? = some d → ∃ v, vs[i]? = some v ∧ Rp K cm A H v d
  | _, _, _, _, .nil, e => by simp at e
  | _, _, 0, _, .cons h _, e => by
    simp at e; subst e; exact ⟨_, rfl, h⟩
  | _, _, i + 1, _, .cons _ r, e => by
    obtain ⟨v, h1, h2⟩ := r.get (i := i) (by simpa using e)
    exact ⟨v, by simpa using h1, h2⟩
theorem RpL.app : ∀ {vs ws : List V} {ds es : List D}, RpL K cm A H vs ds → RpL K cm A H ws es → RpL K cm A H (vs ++ ws) (ds ++ es)
  | _, _, _, _, .nil, s => s
  | _, _, _, _, .cons h r, s => .cons h (r.app s)
theorem RpL.one {v : V} {d : D} (h : Rp K cm A H v d) : RpL K cm A H [v] [d] := .cons h .nil
theorem RpL.take : ∀ {vs : List V} {ds : List D} (n : Nat), RpL K cm A H vs ds → RpL K cm A H (vs.take n) (ds.take n)
  | _, _, 0, _ => by simp; exact .nil
  | _, _, _ + 1, .nil => .nil
  | _, _, n + 1, .cons h r => .cons h (r.take n)
theorem RpL.drop : ∀ {vs : List V} {ds : List D} (n : Nat), RpL K cm A H vs ds → RpL K cm A H (vs.drop n) (ds.drop n)
  | _, _, 0, r => r
  | _, _, _ + 1, .nil => .nil
  | _, _, n + 1, .cons _ r => r.drop n
theorem RpL.set {v : V} {d : D} (h : Rp K cm A H v d) : ∀ {vs : List V} {ds : List D} (i : Nat), RpL K cm A H vs ds → RpL K cm A H (vs.set i v) (ds.set i d)
  | _, _, _, .nil => .nil
  | _, _, 0, .cons _ r => .cons h r
  | _, _, i + 1, .cons q r => .cons q (RpL.set h i r)
theorem RpL.rev : ∀ {vs : List V} {ds : List D}, RpL K cm A H vs ds → RpL K cm A H vs.reverse ds.reverse
  | _, _, .nil => .nil
  | _, _, .cons h r => by
    rw [List.reverse_cons, List.reverse_cons]
    exact r.rev.app (.one h)
theorem RpL.erase : ∀ {vs : List V} {ds : List D} (i : Nat), RpL K cm A H vs ds → RpL K cm A H (vs.eraseIdx i) (ds.eraseIdx i)
  | _, _, _, .nil => .nil
  | _, _, 0, .cons _ r => r
  | _, _, i + 1, .cons q r => .cons q (r.erase i)
end

/-! ### owned trees -/
inductive T where
  | p (d : D) | ls (ds : List D) | di (kvs : List (DK × D)) | dt (kvs : List (List DK × D)) | ob (c : Nat) (fs : List (Str × T))

mutual
def T.d : T → D
  | .p d => d
  | .ls ds => .lst ds
  | .di kvs => .dic kvs
  | .dt kvs => .dit kvs
  | .ob c fs => .obj c (T.ds fs)
def T.ds : List (Str × T) → List (Str × D)
  | [] => []
  | (f, t) :: r => (f, t.d) :: T.ds r
end
mutual
/-- v stands for the tree t, whose own objects stand at the addresses given -/
def RT (K : PySem.W.Frag) (cm : Cm) (A : AS) (H : Hp) : V → T → List Addr → Prop
  | v, .p d, F => F = [] ∧ Rp K cm A H v d
  | v, .ls ds, F => ∃ a xs, v = .ref a ∧ F = [a] ∧ H a = some (.lst xs) ∧ RpL K cm A H xs ds
  | v, .di kvs, F => ∃ a ks, v = .ref a ∧ F = [a] ∧ H a = some (.dK ks) ∧ RpK K cm A H ks kvs
  | v, .dt kvs, F => ∃ a ks, v = .ref a ∧ F = [a] ∧ H a = some (.dT ks) ∧ RpU K cm A H ks kvs
  | v, .ob c fs, F => ∃ a dx gs F', v = .ref a ∧ F = a :: F' ∧ H a = some (.ins (cm c) dx gs) ∧ RTs K cm A H gs fs F'
def RTs (K : PySem.W.Frag) (cm : Cm) (A : AS) (H : Hp) : List (Str × V) → List (Str × T) → List Addr → Prop
  | gs, [], F => gs = [] ∧ F = []
  | gs, (f, t) :: r, F => ∃ v gs' F1 F2, gs = (f, v) :: gs' ∧ F = F1 ++ F2 ∧ RT K cm A H v t F1 ∧ RTs K cm A H gs' r F2
end
section
variable {K : PySem.W.Frag} {cm : Cm} {A A' : AS} {H H' : Hp}
mutual
theorem RT.dom : ∀ {v : V} {t : T} {F : List Addr}, RT K cm A H v t F → ∀ a ∈ F, H a ≠ none
  | v, .p d, F, h, a, m => by obtain ⟨rfl, _⟩ := h; cases m
  | v, .ls ds, F, h, a, m => by
    obtain ⟨b, xs, _, rfl, e, _⟩ := h
    obtain rfl : a = b := by simpa using m
    rw [e]; exact fun z => nomatch z
  | v, .di ds, F, h, a, m => by
    obtain ⟨b, xs, _, rfl, e, _⟩ := h
    obtain rfl : a = b := by simpa using m
    rw [e]; exact fun z => nomatch z
  | v, .dt ds, F, h, a, m => by
    obtain ⟨b, xs, _, rfl, e, _⟩ := h
    obtain rfl : a = b := by simpa using m
    rw [e]; exact fun z => nomatch z
  | v, .ob c fs, F, h, a, m => by
    obtain ⟨b, dx, gs, F', _, rfl, e, r⟩ := h
    rcases List.mem_cons.mp m with rfl | m
    · rw [e]; exact fun z => nomatch z
    · exact RTs.dom r a m
theorem RTs.dom : ∀ {gs : List (Str × V)} {fs : List (Str × T)} {F : List Addr}, RTs K cm A H gs fs F → ∀ a ∈ F, H a ≠ none
  | gs, [], F, h, a, m => by obtain ⟨_, rfl⟩ := h; cases m
  | gs, (f, t) :: r, F, h, a, m => by
    obtain ⟨v, gs', F1, F2, _, rfl, h1, h2⟩ := h
    rcases List.mem_append.mp m with m | m
    · exact RT.dom h1 a m
    · exact RTs.dom h2 a m
end
mutual
/-- a tree whose own objects stay -/
theorem RT.later (l : Later A H A' H') : ∀ {v : V} {t : T} {F : List Addr}, RT K cm A H v t F → (∀ a ∈ F, ∀ o, H a = some o → NT o → H' a = some o) → RT K cm A' H' v t F
  | v, .p d, F, h, _ => ⟨h.1, h.2.later l⟩
  | v, .ls ds, F, h, k => by
    obtain ⟨b, xs, e1, rfl, e, r⟩ := h
    exact ⟨b, xs, e1, rfl, k b (by simp) _ e (fun _ z => nomatch z), r.later l⟩
  | v, .di ds, F, h, k => by
    obtain ⟨b, xs, e1, rfl, e, r⟩ := h
    exact ⟨b, xs, e1, rfl, k b (by simp) _ e (fun _ z => nomatch z), r.later l⟩
  | v, .dt ds, F, h, k => by
    obtain ⟨b, xs, e1, rfl, e, r⟩ := h
    exact ⟨b, xs, e1, rfl, k b (by simp) _ e (fun _ z => nomatch z), r.later l⟩
  | v, .ob c fs, F, h, k => by
    obtain ⟨b, dx, gs, F', e1, rfl, e, r⟩ := h
    exact ⟨b, dx, gs, F', e1, rfl, k b (by simp) _ e (fun _ z => nomatch z), RTs.later l r fun a m => k a (by simp [m])⟩
theorem RTs.later (l : Later A H A' H') : ∀ {gs : List (Str × V)} {fs : List (Str × T)} {F : List Addr}, RTs K cm A H gs fs F → (∀ a ∈ F, ∀ o, H a = some o → NT o → H' a = some o) → RTs K cm A' H' gs fs F
  | gs, [], F, h, _ => h
  | gs, (f, t) :: r, F, h, k => by
    obtain ⟨v, gs', F1, F2, e1, rfl, h1, h2⟩ := h
    exact ⟨v, gs', F1, F2, e1, rfl, RT.later l h1 fun a m => k a (by simp [m]), RTs.later l h2 fun a m => k a (by simp [m])⟩
end
mutual
/-- a tree laid down: its own objects are no longer in A -/
theorem RT.frz (l : Later A H A' H) : ∀ {v : V} {t : T} {F : List Addr}, RT K cm A H v t F → (∀ a ∈ F, ¬ A' a) → Rp K cm A' H v t.d
  | v, .p d, F, h, _ => by rw [T.d]; exact h.2.later l
  | v, .ls ds, F, h, k => by
    obtain ⟨b, xs, rfl, rfl, e, r⟩ := h
    rw [T.d]; exact .lst (.inl ⟨.inl e, k b (by simp)⟩) (r.later l)
  | v, .di ds, F, h, k => by
    obtain ⟨b, xs, rfl, rfl, e, r⟩ := h
    rw [T.d]; exact .dic (.inl e) (k b (by simp)) (r.later l)
  | v, .dt ds, F, h, k => by
    obtain ⟨b, xs, rfl, rfl, e, r⟩ := h
    rw [T.d]; exact .dit (.inl e) (k b (by simp)) (r.later l)
  | v, .ob c fs, F, h, k => by
    obtain ⟨b, dx, gs, F', rfl, rfl, e, r⟩ := h
    rw [T.d]; exact .obj e (k b (by simp)) (RTs.frz l r fun a m => k a (by simp [m]))
theorem RTs.frz (l : Later A H A' H) : ∀ {gs : List (Str × V)} {fs : List (Str × T)} {F : List Addr}, RTs K cm A H gs fs F → (∀ a ∈ F, ¬ A' a) → RpF K cm A' H gs (T.ds fs)
  | gs, [], F, h, _ => by obtain ⟨rfl, _⟩ := h; rw [T.ds]; exact .nil
  | gs, (f, t) :: r, F, h, k => by
    obtain ⟨v, gs', F1, F2, rfl, rfl, h1, h2⟩ := h
    rw [T.ds]; exact .cons (RT.frz l h1 fun a m => k a (by simp [m])) (RTs.frz l h2 fun a m => k a (by simp [m]))
end
end
end G

/-! Ly2: slots, the frame's state RS, readings by functions, names, constants, operators. -/
namespace G
open PySem L2

inductive Sl where
  | no | v (t : T) | pin (t : T)
abbrev Rho := List Sl
structure Fc where
  H0 : Hp
  P : AS
  A0 : AS
  pv : Nat → Option V

section
variable (K : PySem.W.Frag) (cm : Cm)
def RSl (C : Fc) (A : AS) (H : Hp) (i : Nat) (o : Option V) : Sl → List Addr → Prop
  | .no, F => F = []
  | .v t, F => ∃ v, o = some v ∧ RT K cm A H v t F ∧ ∀ a ∈ F, C.H0 a = none
  | .pin t, F => ∃ v, o = some v ∧ C.pv i = some v ∧ RT K cm A H v t F ∧ ∀ a ∈ F, C.P a ∨ C.H0 a = none
/-- the frame's state: C fixed at the entry; A: what is owned; Y: owned things that no slot holds yet -/
structure RS (C : Fc) (A : AS) (Y : List Addr) (σ : St) (H : Hp) (ρ : Rho) : Prop where
  len : σ.length = ρ.length
  sl : ∃ F : Nat → List Addr, (∀ i, (F i).Nodup) ∧ (∀ i j a, a ∈ F i → a ∈ F j → i = j) ∧ (∀ i a, a ∈ F i → A a ∧ ¬ C.A0 a ∧ a ∉ Y) ∧ (∀ i, ρ[i]? = none → F i = []) ∧
    ∀ i s, ρ[i]? = some s → ∃ o, σ[i]? = some o ∧ RSl K cm C A H i o s (F i)
  out : ∀ a, C.A0 a → A a
  sub : ∀ a, A a → C.A0 a ∨ C.P a ∨ C.H0 a = none
  dom : ∀ a, A a → H a ≠ none
  fr : ∀ a o, C.H0 a = some o → NT o → ¬ C.P a → H a = some o
  fd : ∀ a, C.H0 a ≠ none → H a ≠ none
  tb : LamX.Tabs cm.T H
  ne : ∀ a, A a → ∀ φ, H a ≠ some (.ext φ)
end
/-- later, and what the callers own is as it was -/
structure Lt (C : Fc) (A : AS) (H : Hp) (A' : AS) (H' : Hp) : Prop where
  l : Later A H A' H'
  o : ∀ a o, C.A0 a → H a = some o → NT o → H' a = some o
theorem Lt.refl {C : Fc} (A : AS) (H : Hp) : Lt C A H A H := ⟨.refl A H, fun _ _ _ e _ => e⟩
theorem Lt.trans {C : Fc} {A A1 A2 : AS} {H H1 H2 : Hp} (x : Lt C A H A1 H1) (y : Lt C A1 H1 A2 H2) : Lt C A H A2 H2 := ⟨x.l.trans y.l, fun a o z e t => y.o a o z (x.o a o z e t) t⟩
theorem Lt.same {C : Fc} {A : AS} {H H' : Hp} (g : Same H H') : Lt C A H A H' := ⟨.same g, fun a o _ e _ => g a o e⟩
theorem Lt.less {C : Fc} {A A1 A2 : AS} {H H1 : Hp} (x : Lt C A H A1 H1) (h : ∀ a, A2 a → A1 a) : Lt C A H A2 H1 := ⟨x.l.less h, x.o⟩
section
variable {K : PySem.W.Frag} {cm : Cm} {A A' : AS} {H H' : Hp} {C : Fc} {σ : St} {ρ : Rho}
theorem RSl.owned {i : Nat} {o : Option V} {s : Sl} {F : List Addr} (h : RSl K cm C A H i o s F) : ∀ a ∈ F, H a ≠ none := by
  cases s with
  | no => cases h; intro a m; cases m
  | v t => obtain ⟨v, _, r, _⟩ := h; exact r.dom
  | pin t => obtain ⟨v, _, _, r, _⟩ := h; exact r.dom
theorem RSl.keep {i : Nat} {o : Option V} {s : Sl} {F : List Addr} (l : Later A H A' H') (h : RSl K cm C A H i o s F) (k : ∀ a ∈ F, ∀ o, H a = some o → NT o → H' a = some o) : RSl K cm C A' H' i o s F := by
  cases s with
  | no => exact h
  | v t => obtain ⟨v, e, r, f⟩ := h; exact ⟨v, e, r.later l k, f⟩
  | pin t => obtain ⟨v, e, e2, r, f⟩ := h; exact ⟨v, e, e2, r.later l k, f⟩
/-- the heap has grown -/
theorem RS.grow {Y : List Addr} (R : RS K cm C A Y σ H ρ) (g : Same H H') : RS K cm C A Y σ H' ρ := by
  obtain ⟨F, h1, h2, h3, h4, h5⟩ := R.sl
  refine ⟨R.len, ⟨F, h1, h2, h3, h4, fun i s e => ?_⟩, R.out, R.sub, fun a h => (Later.same (A := A) g).dm a (R.dom a h), fun a o h t n => g a o (R.fr a o h t n), fun a h => (Later.same (A := A) g).dm a (R.fd a h), R.tb.ext g, fun a z φ e => by
    cases q : H a with
    | none => exact R.dom a z q
    | some o => exact R.ne a z φ (by rw [q, ← g a o q]; exact e)⟩
  obtain ⟨o, e1, r⟩ := h5 i s e
  exact ⟨o, e1, r.keep (Later.same g) fun a _ o q _ => g a o q⟩
theorem RS.new {Y : List Addr} {p : Addr} (R : RS K cm C A Y σ H ρ) (h : H p = none) : ¬ A p := fun z => R.dom p z h
theorem RS.new0 {Y : List Addr} {p : Addr} (R : RS K cm C A Y σ H ρ) (h : H p = none) : C.H0 p = none := by
  cases q : C.H0 p with
  | none => rfl
  | some o => exact absurd h (R.fd p (by rw [q]; exact fun z => nomatch z))
theorem same_new {p : Addr} {o : HO} (h : H p = none) : Same H (upd H p o) := fun b x e => by
  rw [upd_ne (ne_of_none e h)]; exact e
end

/-! ### what an expression gives -/
inductive RV where
  | val (d : D) | ref (i : Nat)
abbrev Em := Rho → Option (RV × Rho)

def T.q : T → Option D
  | .p d => some d
  | .ls ds => some (.lst ds)
  | .di kvs => some (.dic kvs)
  | .dt kvs => some (.dit kvs)
  | .ob _ _ => none
def Sl.t : Sl → Option T
  | .no => none
  | .v t => some t
  | .pin t => some t
/-- what is read; what may be kept -/
def rd (ρ : Rho) : RV → Option D
  | .val d => some d
  | .ref i => (ρ[i]?.bind Sl.t).bind T.q
def T.u : T → Option D
  | .p d => some d
  | _ => none
def pu (ρ : Rho) : RV → Option D
  | .val d => some d
  | .ref i => (ρ[i]?.bind Sl.t).bind T.u

section
variable (K : PySem.W.Frag) (cm : Cm)
def RRV (A : AS) (H : Hp) (σ : St) (v : V) : RV → Prop
  | .val d => Rp K cm A H v d
  | .ref i => σ[i]? = some (some v)
/-- an operand: its top may be one's own -/
inductive Ro (A : AS) (H : Hp) : V → D → Prop
  | of {v : V} {d : D} : Rp K cm A H v d → Ro A H v d
  | lst {a : Addr} {xs : List V} {ds : List D} : H a = some (.lst xs) → RpL K cm A H xs ds → Ro A H (.ref a) (.lst ds)
  | dic {a : Addr} {ks : List (Key × V)} {kvs : List (DK × D)} : H a = some (.dK ks) → RpK K cm A H ks kvs → Ro A H (.ref a) (.dic kvs)
  | dit {a : Addr} {ks : List (List Key × V)} {kvs : List (List DK × D)} : H a = some (.dT ks) → RpU K cm A H ks kvs → Ro A H (.ref a) (.dit kvs)
/-- an expression's reading by a function -/
def tE (f : Em) : TE := fun σ H Q => ∃ C A ρ r ρ', RS K cm C A [] σ H ρ ∧ f ρ = some (r, ρ') ∧
  ∀ v H' A', Lt C A H A' H' → RS K cm C A' [] σ H' ρ' → RRV K cm A' H' σ v r → Q v H'
/-- a test's -/
def tT (f : Rho → Option (Bool × Rho)) : TT := fun σ H Q => ∃ C A ρ b ρ', RS K cm C A [] σ H ρ ∧ f ρ = some (b, ρ') ∧
  ∀ H' A', Lt C A H A' H' → RS K cm C A' [] σ H' ρ' → Q b H'
/-- a new (or moved) thing's -/
def tN (f : Rho → Option (T × Rho)) : TE := fun σ H Q => ∃ C A ρ t ρ', RS K cm C A [] σ H ρ ∧ f ρ = some (t, ρ') ∧
  ∀ v H' A' F, Lt C A H A' H' → RS K cm C A' F σ H' ρ' → RT K cm A' H' v t F → F.Nodup → (∀ a ∈ F, C.H0 a = none ∧ A' a ∧ ¬ C.A0 a) → Q v H'
def RRVs (A : AS) (H : Hp) (σ : St) (vs : List V) (rs : List RV) : Prop := Paired (fun v r => RRV K cm A H σ v r) vs rs
/-- an argument list's -/
def tAs (f : Rho → Option (List RV × Rho)) : TA := fun σ H Q => ∃ C A ρ rs ρ', RS K cm C A [] σ H ρ ∧ f ρ = some (rs, ρ') ∧
  ∀ vs H' A', Lt C A H A' H' → RS K cm C A' [] σ H' ρ' → RRVs K cm A' H' σ vs rs → Q vs H'
end
section
variable {K : PySem.W.Frag} {cm : Cm} {A A' : AS} {H H' : Hp} {C : Fc} {σ : St} {ρ ρ' : Rho} {v : V} {r : RV} {d : D}
theorem RRV.later (l : Lt C A H A' H') (h : RRV K cm A H σ v r) : RRV K cm A' H' σ v r := by
  cases r with
  | val d => exact Rp.later l.l h
  | ref i => exact h
theorem RRVs.later {vs : List V} {rs : List RV} (l : Lt C A H A' H') (h : RRVs K cm A H σ vs rs) : RRVs K cm A' H' σ vs rs := by
  induction h with
  | nil => exact .nil
  | cons h _ ih => exact .cons (RRV.later l h) ih
theorem Ro.later_same (g : Same H H') (h : Ro K cm A H v d) : Ro K cm A H' v d := by
  cases h with
  | of h => exact .of (h.later (.same g))
  | lst e r => exact .lst (g _ _ e) (r.later (.same g))
  | dic e r => exact .dic (g _ _ e) (r.later (.same g))
  | dit e r => exact .dit (g _ _ e) (r.later (.same g))
theorem slot_of (R : RS K cm C A [] σ H ρ) {i : Nat} {t : T} (e : ρ[i]?.bind Sl.t = some t) (hv : σ[i]? = some (some v)) : ∃ F, RT K cm A H v t F := by
  obtain ⟨F, h1, h2, h3, h4, h5⟩ := R.sl
  cases q : ρ[i]? with
  | none => rw [q] at e; cases e
  | some s =>
    rw [q] at e
    obtain ⟨o, e1, r⟩ := h5 i s q
    rw [hv] at e1; cases e1
    cases s with
    | no => cases e
    | v t' =>
      cases e
      obtain ⟨v', e2, r, _⟩ := r
      cases e2; exact ⟨_, r⟩
    | pin t' =>
      cases e
      obtain ⟨v', e2, _, r, _⟩ := r
      cases e2; exact ⟨_, r⟩
theorem rd_ok (R : RS K cm C A [] σ H ρ) (h : RRV K cm A H σ v r) (e : rd ρ r = some d) : Ro K cm A H v d := by
  cases r with
  | val d' => cases e; exact .of h
  | ref i =>
    change (ρ[i]?.bind Sl.t).bind T.q = some d at e
    cases q : ρ[i]?.bind Sl.t with
    | none => rw [q] at e; cases e
    | some t =>
      rw [q] at e
      obtain ⟨F, r⟩ := slot_of R q h
      cases t with
      | p d' => cases e; exact .of r.2
      | ls ds => cases e; obtain ⟨a, xs, rfl, _, e, r⟩ := r; exact .lst e r
      | di ds => cases e; obtain ⟨a, xs, rfl, _, e, r⟩ := r; exact .dic e r
      | dt ds => cases e; obtain ⟨a, xs, rfl, _, e, r⟩ := r; exact .dit e r
      | ob c fs => cases e
theorem pu_ok (R : RS K cm C A [] σ H ρ) (h : RRV K cm A H σ v r) (e : pu ρ r = some d) : Rp K cm A H v d := by
  cases r with
  | val d' => cases e; exact h
  | ref i =>
    change (ρ[i]?.bind Sl.t).bind T.u = some d at e
    cases q : ρ[i]?.bind Sl.t with
    | none => rw [q] at e; cases e
    | some t =>
      rw [q] at e
      obtain ⟨F, r⟩ := slot_of R q h
      cases t with
      | p d' => cases e; exact r.2
      | _ => cases e
/-! what an operand is -/
theorem Ro.non (h : Ro K cm A H v .non) : v = .non := by
  cases h with
  | of h => cases h; rfl
theorem Ro.bl {b : Bool} (h : Ro K cm A H v (.bl b)) : v = .bl b := by
  cases h with
  | of h => cases h; rfl
theorem Ro.int {i : Int} (h : Ro K cm A H v (.int i)) : v = .int i := by
  cases h with
  | of h => cases h; rfl
theorem Ro.str {s : List Nat} (h : Ro K cm A H v (.str s)) : v = .str (S s) := by
  cases h with
  | of h => cases h; rfl
theorem Ro.tup {ds : List D} (h : Ro K cm A H v (.tup ds)) : ∃ a xs, v = .ref a ∧ SqT K H a xs ∧ RpL K cm A H xs ds := by
  cases h with
  | of h => cases h with
    | tup h r => exact ⟨_, _, rfl, h.sq, r⟩
theorem Ro.ls {ds : List D} (h : Ro K cm A H v (.lst ds)) : ∃ a xs, v = .ref a ∧ SqL K H a xs ∧ RpL K cm A H xs ds := by
  cases h with
  | of h => cases h with
    | lst h r => exact ⟨_, _, rfl, h.sq, r⟩
  | lst h r => exact ⟨_, _, rfl, .inl (.inl h), r⟩
theorem Ro.di {kvs : List (DK × D)} (h : Ro K cm A H v (.dic kvs)) : ∃ a ks, v = .ref a ∧ Rd H a (.dK ks) ∧ RpK K cm A H ks kvs := by
  cases h with
  | of h => cases h with
    | dic h _ r => exact ⟨_, _, rfl, h, r⟩
  | dic h r => exact ⟨_, _, rfl, .inl h, r⟩
theorem Ro.du {kvs : List (List DK × D)} (h : Ro K cm A H v (.dit kvs)) : ∃ a ks, v = .ref a ∧ Rd H a (.dT ks) ∧ RpU K cm A H ks kvs := by
  cases h with
  | of h => cases h with
    | dit h _ r => exact ⟨_, _, rfl, h, r⟩
  | dit h r => exact ⟨_, _, rfl, .inl h, r⟩
end

section
variable {X : Cx} {cm : Cm} {pos : Pos} {e a b c : Expr}
theorem _root_.L2.PE.imp {e : Expr} {t t' : TE} (h : PE X e t) (i : ∀ σ H Q, t' σ H Q → t σ H Q) : PE X e t' := ⟨fun pins s σ H Q I q => h.run pins s σ H Q I (i σ H Q q)⟩
theorem _root_.L2.PT.imp {e : Expr} {t t' : TT} (h : PT X e t) (i : ∀ σ H Q, t' σ H Q → t σ H Q) : PT X e t' := ⟨fun pins s σ H Q I q => h.run pins s σ H Q I (i σ H Q q)⟩
theorem _root_.L2.PW.imp {e : Expr} {t t' : TT} (h : PW X e t) (i : ∀ σ H Q, t' σ H Q → t σ H Q) : PW X e t' := ⟨fun wh pins s σ H Q I q => h.run wh pins s σ H Q I (i σ H Q q)⟩
theorem _root_.L2.PA.imp {e : List Expr} {t t' : TA} (h : PA X e t) (i : ∀ σ H Q, t' σ H Q → t σ H Q) : PA X e t' := ⟨fun pos pins s σ H Q I q => h.run pos pins s σ H Q I (i σ H Q q)⟩
theorem _root_.L2.PS.imp {e : Stmt} {t t' : TS} (h : PS X e t) (i : ∀ D σ H, t' D σ H → t D σ H) : PS X e t' := ⟨fun pins s σ H D I q => h.run pins s σ H D I (i D σ H q)⟩
theorem _root_.L2.PSs.imp {e : List Stmt} {t t' : TS} (h : PSs X e t) (i : ∀ D σ H, t' D σ H → t D σ H) : PSs X e t' := ⟨fun pins s σ H D I q => h.run pins s σ H D I (i D σ H q)⟩
theorem _root_.L2.PE.or {e : Expr} {t t' : TE} (h : PE X e t) (h' : PE X e t') : PE X e (fun σ H Q => t σ H Q ∨ t' σ H Q) := ⟨fun pins s σ H Q I q => q.elim (h.run pins s σ H Q I) (h'.run pins s σ H Q I)⟩
/-- sizes of lists and tuples, known of the heap -/
def HL (K : PySem.W.Frag) (H : Hp) : Prop := ∀ a xs, SqL K H a xs ∨ SqT K H a xs → xs.length ≤ sizeLine
theorem _root_.L2.Inv.hl {pins : List (Addr × Obj)} {σ : St} {H : Hp} {s : Shared} (I : Inv X pins σ H s) : HL X.K H := fun a xs h => by
  rcases h with h | h
  · obtain ⟨_, _, _, z⟩ := I.list h; exact z
  · obtain ⟨_, _, _, z⟩ := I.tuple h; exact z
theorem _root_.L2.PE.hl {e : Expr} {t : TE} (h : PE X e t) : PE X e (fun σ H Q => HL X.K H → t σ H (fun v H' => HL X.K H' → Q v H')) :=
  ⟨fun pins s σ H Q I q => thn (h.run pins s σ H _ I (q (Inv.hl I))) fun u s' ⟨v, H', I', r, k⟩ => ⟨v, H', I', r, k (Inv.hl I')⟩⟩

variable (X cm)
abbrev FE (e : Expr) (f : Em) : Prop := PE X e (tE X.K cm f)
abbrev FB (e : Expr) (f : Rho → Option (Bool × Rho)) : Prop := PT X e (tT X.K cm f)
abbrev FW (e : Expr) (f : Rho → Option (Bool × Rho)) : Prop := PW X e (tT X.K cm f)
abbrev FN (e : Expr) (f : Rho → Option (T × Rho)) : Prop := PE X e (tN X.K cm f)
abbrev FA (es : List Expr) (f : Rho → Option (List RV × Rho)) : Prop := PA X es (tAs X.K cm f)
variable {X cm}

/-! ### names, constants -/
def eVar (i : Nat) : Em := fun ρ => match ρ[i]? with
  | some (.v (.p d)) => some (.val d, ρ)
  | some (.v _) => some (.ref i, ρ)
  | some (.pin _) => some (.ref i, ρ)
  | _ => none
theorem fe_var {i : Nat} (h : PE X e (tVar i)) : FE X cm e (eVar i) := h.imp fun σ H Q ⟨C, A, ρ, r, ρ', R, f, k⟩ => by
  obtain ⟨F, h1, h2, h3, h4, h5⟩ := R.sl
  unfold eVar at f
  split at f
  · rename_i d q
    cases f
    obtain ⟨o, e1, v, rfl, r, _⟩ := h5 i _ q
    exact ⟨v, e1, k v H A (.refl A H) R r.2⟩
  · rename_i t _ q
    cases f
    obtain ⟨o, e1, v, rfl, r, _⟩ := h5 i _ q
    exact ⟨v, e1, k v H A (.refl A H) R e1⟩
  · rename_i t q
    cases f
    obtain ⟨o, e1, v, rfl, _, r, _⟩ := h5 i _ q
    exact ⟨v, e1, k v H A (.refl A H) R e1⟩
  · cases f
def eC (d : D) : Em := fun ρ => some (.val d, ρ)
theorem fe_c {v : V} {d : D} (h : PE X e (tC v)) (r : ∀ A H, Rp X.K cm A H v d) : FE X cm e (eC d) := h.imp fun σ H Q ⟨C, A, ρ, r', ρ', R, f, k⟩ => by
  cases f
  exact k v H A (.refl A H) R (r A H)
theorem fe_int {i : Int} {j : Nat} : FE X cm (.Constant (.int i) j pos) (eC (.int i)) := fe_c pe_int fun _ _ => .int i
theorem fe_bl {i : Bool} {j : Nat} : FE X cm (.Constant (.bool i) j pos) (eC (.bl i)) := fe_c pe_bl fun _ _ => .bl i
theorem fe_non {j : Nat} : FE X cm (.Constant .none j pos) (eC .non) := fe_c pe_non fun _ _ => .non
theorem fe_str {x : Str} {s : List Nat} {j : Nat} (h : x = S s) : FE X cm (.Constant (.str x) j pos) (eC (.str s)) := fe_c pe_str fun _ _ => by rw [h]; exact .str s

/-! ### operators by values -/
/-- an operator's rule does what c says -/
def RO (K : PySem.W.Frag) (cm : Cm) (r : R2) (c : D → D → Option D) : Prop := ∀ (A : AS) (H : Hp) (x y : V) (dx dy dz : D) (Q : VK), (∀ a, A a → H a ≠ none) →
  Ro K cm A H x dx → Ro K cm A H y dy → c dx dy = some dz → (∀ z H', Same H H' → Rp K cm A H' z dz → Q z H') → r x y H Q
theorem RO.or {K : PySem.W.Frag} {r r' : R2} {c c' : D → D → Option D} (h : RO K cm r c) (h' : RO K cm r' c') : RO K cm (fun x y H Q => r x y H Q ∨ r' x y H Q) (fun x y => (c x y).or (c' x y)) := by
  intro A H x y dx dy dz Q hd hx hy e k
  change (c dx dy).or (c' dx dy) = some dz at e
  cases q : c dx dy with
  | some d => rw [q] at e; cases e; exact .inl (h A H x y dx dy _ Q hd hx hy q k)
  | none => rw [q] at e; exact .inr (h' A H x y dx dy _ Q hd hx hy e k)
def eOp (c : D → D → Option D) (f g : Em) : Em := fun ρ => (f ρ).bind fun p => (g p.2).bind fun q => (rd q.2 p.1).bind fun x => (rd q.2 q.1).bind fun y => (c x y).map fun z => (.val z, q.2)
theorem eOp_some {c : D → D → Option D} {f g : Em} {ρ ρ2 : Rho} {r : RV} (h : eOp c f g ρ = some (r, ρ2)) :
    ∃ p ρ1 q x y z, f ρ = some (p, ρ1) ∧ g ρ1 = some (q, ρ2) ∧ rd ρ2 p = some x ∧ rd ρ2 q = some y ∧ c x y = some z ∧ r = .val z := by
  unfold eOp at h
  simp only [Option.bind_eq_some_iff, Option.map_eq_some_iff] at h
  obtain ⟨⟨p, ρ1⟩, h1, ⟨q, ρ3⟩, h2, x, h3, y, h4, z, h5, h6⟩ := h
  cases h6
  exact ⟨p, ρ1, q, x, y, z, h1, h2, h3, h4, h5, rfl⟩
theorem tOp_of {K : PySem.W.Frag} {r : R2} {c : D → D → Option D} {f g : Em} {σ : St} {H : Hp} {Q : VK} (hr : RO K cm r c) (h : tE K cm (eOp c f g) σ H Q) : tOp r (tE K cm f) (tE K cm g) σ H Q := by
  obtain ⟨C, A, ρ, v, ρ2, R, e, k⟩ := h
  obtain ⟨p, ρ1, q, x, y, z, h1, h2, h3, h4, h5, rfl⟩ := eOp_some e
  refine ⟨C, A, ρ, p, ρ1, R, h1, fun v1 H1 A1 l1 R1 w1 => ⟨C, A1, ρ1, q, ρ2, R1, h2, fun v2 H2 A2 l2 R2 w2 => ?_⟩⟩
  refine hr A2 H2 v1 v2 x y z Q R2.dom (rd_ok R2 (w1.later l2) h3) (rd_ok R2 w2 h4) h5 fun z' H' g rz => ?_
  exact k z' H' A2 ((l1.trans l2).trans (.same g)) (R2.grow g) rz
theorem fe_op {op : Operator} {r : R2} {c : D → D → Option D} {f g : Em} (ho : OpR X (binaryOp op) r) (hr : RO X.K cm r c) (ha : FE X cm a f) (hb : FE X cm b g) : FE X cm (.BinOp a op b pos) (eOp c f g) :=
  (pe_op ho ha hb).imp fun _ _ _ h => tOp_of hr h
theorem fe_cmp {op : CmpOp} {r : R2} {c : D → D → Option D} {f g : Em} (ho : OpR X (compareOp op) r) (hr : RO X.K cm r c) (ha : FE X cm a f) (hb : FE X cm b g) (hm : behindInMarks op b = false) : FE X cm (.Compare a [op] [b] pos) (eOp c f g) :=
  (pe_cmpR ho ha hb hm).imp fun _ _ _ h => tOp_of hr h
/-- a test by a value that is True or False -/
def bOf (f : Em) : Rho → Option (Bool × Rho) := fun ρ => (f ρ).bind fun p => match p.1 with
  | .val (.bl b) => some (b, p.2)
  | _ => none
theorem bOf_some {f : Em} {ρ ρ' : Rho} {b : Bool} (h : bOf f ρ = some (b, ρ')) : f ρ = some (.val (.bl b), ρ') := by
  unfold bOf at h
  rw [Option.bind_eq_some_iff] at h
  obtain ⟨⟨r, ρ1⟩, h1, h2⟩ := h
  split at h2
  · rename_i q
    cases h2
    cases q
    exact h1
  · cases h2
theorem tB_of {K : PySem.W.Frag} {f : Em} {σ : St} {H : Hp} {Q : Bool → Hp → Prop} (h : tT K cm (bOf f) σ H Q) : tE K cm f σ H (fun x H1 => ∃ c, x = .bl c ∧ Q c H1) := by
  obtain ⟨C, A, ρ, b, ρ', R, e, k⟩ := h
  refine ⟨C, A, ρ, _, ρ', R, bOf_some e, fun v H' A' l R' w => ?_⟩
  cases w
  exact ⟨b, rfl, k H' A' l R'⟩
theorem fb_val {f : Em} (h : FE X cm e f) (he : ∀ whole, isTrue e X.env whole = (do let v ← whole; standAt e.pos; holding [v] (truthy v)) := by intro _; rfl) : FB X cm e (bOf f) :=
  (pt_val h he).imp fun _ _ _ q => tB_of q
theorem fb_cmp {op : CmpOp} {r : R2} {c : D → D → Option D} {f g : Em} (ho : OpR X (compareOp op) r) (hr : RO X.K cm r c) (ha : FE X cm a f) (hb : FE X cm b g) (hm : behindInMarks op b = false) : FB X cm (.Compare a [op] [b] pos) (bOf (eOp c f g)) :=
  (pt_cmpR ho ha hb hm).imp fun σ H Q q => tOp_of hr (tB_of q)
end
end G

/-! Ly3: operators: what each does with data. -/
namespace G
open PySem PySem.Spec L2
open PyProof.Rows (mul_int)

/-! ### data as the library's data, for == -/
mutual
def D.py : D → PyData
  | .non => .none
  | .bl b => .bool b
  | .int i => .int i
  | .str s => .str (S s)
  | .tup ds => .tuple (D.pys ds)
  | .lst ds => .list (D.pys ds)
  | _ => .dict []
def D.pys : List D → List PyData
  | [] => []
  | d :: ds => d.py :: D.pys ds
end
mutual
/-- no dict, no instance; signs below 1114112 -/
def D.flat : D → Bool
  | .non | .bl _ | .int _ => true
  | .str s => s.all (· < 1114112)
  | .tup ds | .lst ds => D.flats ds
  | _ => false
def D.flats : List D → Bool
  | [] => true
  | d :: ds => d.flat && D.flats ds
end
mutual
def D.dep : D → Nat
  | .tup ds | .lst ds => D.deps ds + 1
  | _ => 0
def D.deps : List D → Nat
  | [] => 0
  | d :: ds => max d.dep (D.deps ds)
end
mutual
/-- == -/
def D.eq : D → D → Bool
  | .non, .non => true
  | .bl a, .bl b => a == b
  | .bl a, .int j => (if a then 1 else 0) == j
  | .int i, .bl b => i == (if b then 1 else 0)
  | .int i, .int j => decide (i = j)
  | .str x, .str y => decide (x = y)
  | .lst xs, .lst ys => D.eqs xs ys
  | .tup xs, .tup ys => D.eqs xs ys
  | _, _ => false
def D.eqs : List D → List D → Bool
  | [], [] => true
  | x :: xs, y :: ys => D.eq x y && D.eqs xs ys
  | _, _ => false
end
mutual
theorem D.canLay : ∀ d : D, d.flat = true → d.py.canLay0 = true
  | .non, _ => by simp [D.py, PyData.canLay0]
  | .bl _, _ => by simp [D.py, PyData.canLay0]
  | .int _, _ => by simp [D.py, PyData.canLay0]
  | .str s, h => by
    simp only [D.flat] at h
    simp only [D.py, PyData.canLay0, PyData.strOk, S]
    simpa using h
  | .tup ds, h => by
    simp only [D.flat] at h
    simp only [D.py, PyData.canLay0]
    exact D.canLays ds h
  | .lst ds, h => by
    simp only [D.flat] at h
    simp only [D.py, PyData.canLay0]
    exact D.canLays ds h
  | .dic _, h => by simp [D.flat] at h
  | .dit _, h => by simp [D.flat] at h
  | .obj _ _, h => by simp [D.flat] at h
  | .fn _, h => by simp [D.flat] at h
theorem D.canLays : ∀ ds : List D, D.flats ds = true → PyData.canLayAll0 (D.pys ds) = true
  | [], _ => by simp [D.pys, PyData.canLayAll0]
  | d :: ds, h => by
    simp only [D.flats, Bool.and_eq_true] at h
    simp only [D.pys, PyData.canLayAll0, Bool.and_eq_true]
    exact ⟨D.canLay d h.1, D.canLays ds h.2⟩
end
mutual
theorem D.dep_py : ∀ d : D, d.flat = true → d.py.depth = d.dep
  | .non, _ => by simp [D.py, PyData.depth, D.dep]
  | .bl _, _ => by simp [D.py, PyData.depth, D.dep]
  | .int _, _ => by simp [D.py, PyData.depth, D.dep]
  | .str s, _ => by simp [D.py, PyData.depth, D.dep]
  | .tup ds, h => by
    simp only [D.flat] at h
    simp only [D.py, PyData.depth, D.dep]
    rw [D.deps_py ds h]
  | .lst ds, h => by
    simp only [D.flat] at h
    simp only [D.py, PyData.depth, D.dep]
    rw [D.deps_py ds h]
  | .dic _, h => by simp [D.flat] at h
  | .dit _, h => by simp [D.flat] at h
  | .obj _ _, h => by simp [D.flat] at h
  | .fn _, h => by simp [D.flat] at h
theorem D.deps_py : ∀ ds : List D, D.flats ds = true → PyData.depthAll (D.pys ds) = D.deps ds
  | [], _ => by simp [D.pys, PyData.depthAll, D.deps]
  | d :: ds, h => by
    simp only [D.flats, Bool.and_eq_true] at h
    simp only [D.pys, PyData.depthAll, D.deps]
    rw [D.dep_py d h.1, D.deps_py ds h.2]
end
mutual
theorem D.eq_py : ∀ d e : D, d.flat = true → e.flat = true → PyData.eqv d.py e.py = D.eq d e
  | .non, e, _, h => by cases e <;> simp_all [D.py, PyData.eqv, D.eq, D.flat]
  | .bl _, e, _, h => by cases e <;> simp_all [D.py, PyData.eqv, D.eq, D.flat]
  | .int i, e, _, h => by
    cases e <;> simp_all [D.py, PyData.eqv, D.eq, D.flat]
    rename_i j
    by_cases q : i = j <;> simp [q]
  | .str s, e, _, h => by
    cases e with
    | str t =>
      simp only [D.py, PyData.eqv, D.eq]
      by_cases q : s = t
      · subst q; simp
      · simp [q]; exact fun z => q (S_inj z)
    | _ => simp_all [D.py, PyData.eqv, D.eq, D.flat]
  | .tup ds, e, h, h' => by
    cases e <;> simp_all [D.py, PyData.eqv, D.eq, D.flat]
    exact D.eqs_py _ _ h h'
  | .lst ds, e, h, h' => by
    cases e <;> simp_all [D.py, PyData.eqv, D.eq, D.flat]
    exact D.eqs_py _ _ h h'
  | .dic _, _, h, _ => by simp [D.flat] at h
  | .dit _, _, h, _ => by simp [D.flat] at h
  | .obj _ _, _, h, _ => by simp [D.flat] at h
  | .fn _, _, h, _ => by simp [D.flat] at h
theorem D.eqs_py : ∀ ds es : List D, D.flats ds = true → D.flats es = true → PyData.eqvAll (D.pys ds) (D.pys es) = D.eqs ds es
  | [], [], _, _ => by simp [D.pys, PyData.eqvAll, D.eqs]
  | [], _ :: _, _, _ => by simp [D.pys, PyData.eqvAll, D.eqs]
  | _ :: _, [], _, _ => by simp [D.pys, PyData.eqvAll, D.eqs]
  | d :: ds, e :: es, h, h' => by
    simp only [D.flats, Bool.and_eq_true] at h h'
    simp only [D.pys, PyData.eqvAll, D.eqs]
    rw [D.eq_py d e h.1 h'.1, D.eqs_py ds es h.2 h'.2]
end
/-- fit to be compared -/
def D.ok (d : D) : Bool := d.flat && decide (d.dep ≤ 64)
theorem D.shaped {d : D} (h : d.ok = true) : SeqAt.shaped d.py = true := by
  unfold D.ok at h
  rw [Bool.and_eq_true] at h
  unfold SeqAt.shaped
  rw [D.canLay d h.1, D.dep_py d h.1]
  simpa using h.2

section
variable {K : PySem.W.Frag} {cm : Cm} {A : AS} {H : Hp}
mutual
theorem Rp.dp : ∀ {v : V} {d : D}, Rp K cm A H v d → d.flat = true → Dp K H v d.py
  | _, _, .non, _ => by rw [D.py]; exact .non
  | _, _, .bl b, _ => by rw [D.py]; exact .bl b
  | _, _, .int i, _ => by rw [D.py]; exact .int i
  | _, _, .str s, _ => by rw [D.py]; exact .str _
  | _, _, .tup h r, f => by
    rw [D.py]
    simp only [D.flat] at f
    exact .tup h.sq (RpL.dp r f)
  | _, _, .lst h r, f => by
    rw [D.py]
    simp only [D.flat] at f
    exact .lst h.sq (RpL.dp r f)
  | _, _, .dic _ _ _, f => by simp [D.flat] at f
  | _, _, .dit _ _ _, f => by simp [D.flat] at f
  | _, _, .obj _ _ _, f => by simp [D.flat] at f
  | _, _, .fn _, f => by simp [D.flat] at f
theorem RpL.dp : ∀ {vs : List V} {ds : List D}, RpL K cm A H vs ds → D.flats ds = true → DpAll K H vs (D.pys ds)
  | _, _, .nil, _ => by rw [D.pys]; exact .nil
  | _, _, .cons h r, f => by
    rw [D.pys]
    simp only [D.flats, Bool.and_eq_true] at f
    exact .cons (Rp.dp h f.1) (RpL.dp r f.2)
end
theorem Ro.dp {v : V} {d : D} (h : Ro K cm A H v d) (f : d.flat = true) : Dp K H v d.py := by
  cases h with
  | of h => exact h.dp f
  | lst e r =>
    rw [D.py]
    simp only [D.flat] at f
    exact .lst (.inl (.inl e)) (r.dp f)
  | dic e r => simp [D.flat] at f
  | dit e r => simp [D.flat] at f
end

/-! ### arithmetic -/
def big : Nat := 1000000
theorem big_lt {n : Nat} (h : n ≤ big) : n < sizeLine := Nat.lt_of_le_of_lt h (by decide)
theorem big_le {n : Nat} (h : n ≤ big) : n ≤ sizeLine := Nat.le_of_lt (big_lt h)
def mulOk (i j : Int) : Bool := (decide (i.natAbs < 2 ^ 63) || decide (j.natAbs < 2 ^ 63)) || decide (i.natAbs.log2 + j.natAbs.log2 < 1000000)
def cAdd : D → D → Option D
  | .int i, .int j => some (.int (i + j))
  | .str s, .str t => if s.length + t.length ≤ big then some (.str (s ++ t)) else none
  | .lst xs, .lst ys => if xs.length + ys.length ≤ big then some (.lst (xs ++ ys)) else none
  | .tup xs, .tup ys => if xs.length + ys.length ≤ big then some (.tup (xs ++ ys)) else none
  | _, _ => none
def cSub : D → D → Option D
  | .int i, .int j => some (.int (i - j))
  | _, _ => none
def cMul : D → D → Option D
  | .int i, .int j => if mulOk i j then some (.int (i * j)) else none
  | _, _ => none
def cDiv : D → D → Option D
  | .int i, .int j => if 0 < j ∧ j.natAbs.log2 < 9000 then some (.int (i / j)) else none
  | _, _ => none
def cMod : D → D → Option D
  | .int i, .int j => if 0 < j then some (.int (i % j)) else none
  | _, _ => none
def cPow : D → D → Option D
  | .int i, .int j => if 0 ≤ j ∧ j.natAbs ≤ 1000000 ∧ i.natAbs < 2 ^ 64 then some (.int (i ^ j.toNat)) else none
  | _, _ => none
def cShl : D → D → Option D
  | .int i, .int j => if 0 ≤ j ∧ j.natAbs ≤ 1000000 ∧ i.natAbs < 2 ^ 64 then some (.int (i * 2 ^ j.toNat)) else none
  | _, _ => none
def cShr : D → D → Option D
  | .int i, .int j => if 0 ≤ j then some (.int (i / 2 ^ j.toNat)) else none
  | _, _ => none
def cI (f : Int → Int → Int) : D → D → Option D
  | .int i, .int j => some (.int (f i j))
  | _, _ => none
def cB (f : Int → Int → Bool) : D → D → Option D
  | .int i, .int j => some (.bl (f i j))
  | _, _ => none

section
variable {X : Cx} {K : PySem.W.Frag} {cm : Cm}
theorem ro_I0 {f : Int → Int → Int} : RO K cm (rI0 fun i j => .int (f i j)) (cI f) := by
  intro A H x y dx dy dz Q hd hx hy e k
  unfold cI at e
  split at e
  · cases e
    cases hx.int; cases hy.int
    exact ⟨_, _, rfl, rfl, k _ H (.refl H) (.int _)⟩
  · cases e
theorem ro_B0 {f : Int → Int → Bool} : RO K cm (rI0 fun i j => .bl (f i j)) (cB f) := by
  intro A H x y dx dy dz Q hd hx hy e k
  unfold cB at e
  split at e
  · cases e
    cases hx.int; cases hy.int
    exact ⟨_, _, rfl, rfl, k _ H (.refl H) (.bl _)⟩
  · cases e
theorem ro_I {Cd : Int → Int → Prop} {f : Int → Int → Int} {c : D → D → Option D} (h : ∀ x y z, c x y = some z → ∃ i j, x = .int i ∧ y = .int j ∧ Cd i j ∧ z = .int (f i j)) : RO K cm (rI Cd fun i j => .int (f i j)) c := by
  intro A H x y dx dy dz Q hd hx hy e k
  obtain ⟨i, j, rfl, rfl, hc, rfl⟩ := h _ _ _ e
  cases hx.int; cases hy.int
  exact ⟨_, _, rfl, rfl, hc, k _ H (.refl H) (.int _)⟩
theorem RO.by {r : R2} {c c' : D → D → Option D} (h : RO K cm r c) (e : ∀ x y z, c' x y = some z → c x y = some z) : RO K cm r c' :=
  fun A H x y dx dy dz Q hd hx hy q k => h A H x y dx dy dz Q hd hx hy (e _ _ _ q) k

/-- list + list, of any that stand -/
def rCatR (K : PySem.W.Frag) : R2 := fun x y H Q => ∃ l b xs zs, x = .ref l ∧ y = .ref b ∧ SqL K H l xs ∧ SqL K H b zs ∧ xs.length + zs.length ≤ sizeLine ∧ ∀ p, H p = none → Q (.ref p) (upd H p (.lst (xs ++ zs)))
theorem op_catR : OpR X (binaryOp .Add) (rCatR X.K) := by
  intro pins s σ H x y v u Q I rx ry h
  obtain ⟨l, b, xs, zs, rfl, rfl, hH, hB, hz, q⟩ := h
  cases rx
  cases ry
  obtain ⟨its, r, ⟨⟨cls, dd, data, sl⟩, n, ho, hc, hd0, hd⟩, z⟩ := I.list hH
  obtain ⟨its2, r2, ⟨⟨cls2, dd2, data2, sl2⟩, n2, ho2, hc2, hd02, hd2⟩, z2⟩ := I.list hB
  simp only at hc hd hd0 hc2 hd2 hd02
  subst hc hd hd0 hc2 hd2 hd02
  have hl := r.length
  have hl2 := r2.length
  have ea : its.toArray ++ its2.toArray = (its ++ its2).toArray := by simp
  refine PySem.concat_meets ⟨_, ho, rfl⟩ ⟨_, ho2, rfl⟩ PySem.noFill_list_add PySem.seq_list_add PySem.F.slot_list_add PySem.F.entry_list_add (PySem.F.args_list_add_2 _ _) (PyProof.Rows.list_addW l b its.toArray its2.toArray n n2 none none sl sl2 (by simp; omega)) ⟨ho, ho2, ?_⟩
  rw [ea]
  exact ⟨.ref _, _, I.lnew (t' := s.toks) (r.append r2) (by rw [List.length_append]; omega), rfl, q _ I.fresh⟩
theorem new_lst {A : AS} {H : Hp} {p : Addr} {xs : List V} {ds : List D} (hd : ∀ a, A a → H a ≠ none) (hp : H p = none) (r : RpL K cm A H xs ds) : Rp K cm A (upd H p (.lst xs)) (.ref p) (.lst ds) :=
  .lst (.inl ⟨.inl upd_same, fun z => hd p z hp⟩) (r.later (.same (same_new hp)))
theorem new_tup {A : AS} {H : Hp} {p : Addr} {xs : List V} {ds : List D} (hd : ∀ a, A a → H a ≠ none) (hp : H p = none) (r : RpL K cm A H xs ds) : Rp K cm A (upd H p (.tup xs)) (.ref p) (.tup ds) :=
  .tup (.inl ⟨upd_same, fun z => hd p z hp⟩) (r.later (.same (same_new hp)))
theorem ro_catR : RO K cm (rCatR K) (fun x y => match x, y with | .lst xs, .lst ys => if xs.length + ys.length ≤ big then some (.lst (xs ++ ys)) else none | _, _ => none) := by
  intro A H x y dx dy dz Q hd hx hy e k
  cases dx <;> (try cases e) <;> cases dy <;> (try cases e)
  rename_i ds es
  dsimp only at e
  split at e
  · rename_i hz
    cases e
    obtain ⟨a, xs, rfl, hl, r⟩ := hx.ls
    obtain ⟨b, ys, rfl, hl', r'⟩ := hy.ls
    refine ⟨a, b, xs, ys, rfl, rfl, hl, hl', big_le (by rw [r.length, r'.length]; exact hz), fun p hp => k _ _ (same_new hp) (new_lst hd hp (r.app r'))⟩
  · cases e
theorem ro_addS : RO K cm (fun x y H Q => ∃ i j, x = .str i ∧ y = .str j ∧ i.length + j.length ≤ sizeLine ∧ Q (.str (i ++ j)) H) (fun x y => match x, y with | .str xs, .str ys => if xs.length + ys.length ≤ big then some (.str (xs ++ ys)) else none | _, _ => none) := by
  intro A H x y dx dy dz Q hd hx hy e k
  cases dx <;> (try cases e) <;> cases dy <;> (try cases e)
  rename_i ds es
  dsimp only at e
  split at e
  · rename_i hz
    cases e
    cases hx.str; cases hy.str
    refine ⟨_, _, rfl, rfl, big_le (by rw [S_len, S_len]; exact hz), k _ H (.refl H) ?_⟩
    have : S ds ++ S es = S (ds ++ es) := by
      show Str.mk _ = Str.mk _
      simp [S]
    rw [this]
    exact .str _
  · cases e
theorem SqT_nil_ref {A : AS} {H : Hp} {v : V} {ds : List D} (h : Ro K cm A H v (.tup ds)) : Rp K cm A H v (.tup ds) := by
  cases h with
  | of h => exact h
theorem ro_catA : RO K cm (rCatA K) (fun x y => match x, y with | .tup xs, .tup ys => if xs.length + ys.length ≤ big then some (.tup (xs ++ ys)) else none | _, _ => none) := by
  intro A H x y dx dy dz Q hd hx hy e k
  cases dx <;> (try cases e) <;> cases dy <;> (try cases e)
  rename_i ds es
  dsimp only at e
  split at e
  · rename_i hz
    cases e
    obtain ⟨a, xs, rfl, hl, r⟩ := hx.tup
    obtain ⟨b, ys, rfl, hl', r'⟩ := hy.tup
    have l1 := r.length
    have l2 := r'.length
    refine ⟨a, b, xs, ys, rfl, rfl, hl, hl', big_le (by rw [l1, l2]; exact hz), fun z => ?_, fun z z' => ?_, fun z z' p hp => k _ _ (same_new hp) (new_tup hd hp (r.app r'))⟩
    · subst z
      have : ds = [] := List.eq_nil_of_length_eq_zero (by simpa using l1.symm)
      subst this
      exact k _ H (.refl H) (SqT_nil_ref hy)
    · subst z'
      have : es = [] := List.eq_nil_of_length_eq_zero (by simpa using l2.symm)
      subst this
      rw [List.append_nil] at k
      exact k _ H (.refl H) (SqT_nil_ref hx)
  · cases e
def rAddA (K : PySem.W.Frag) : R2 := fun x y H Q => (rI0 (fun i j => .int (i + j)) x y H Q) ∨ ((∃ i j, x = .str i ∧ y = .str j ∧ i.length + j.length ≤ sizeLine ∧ Q (.str (i ++ j)) H) ∨ (rCatR K x y H Q ∨ rCatA K x y H Q))
theorem op_addA : OpR X (binaryOp .Add) (rAddA X.K) := op_add.or (op_add_str.or (op_catR.or op_catA))
theorem ro_add : RO K cm (rAddA K) cAdd := (RO.or ro_I0 (RO.or ro_addS (RO.or ro_catR ro_catA))).by fun x y z h => by
  cases x <;> cases y <;> simp_all [cAdd, cI]
theorem ro_sub : RO K cm (rI0 fun i j => .int (i - j)) cSub := ro_I0.by fun x y z h => by cases x <;> cases y <;> simp_all [cSub, cI]
theorem mulOk_ok {i j : Int} (h : mulOk i j = true) : CMul i j ∨ CMulW i j := by
  unfold mulOk at h
  simp only [Bool.or_eq_true, decide_eq_true_eq] at h
  rcases h with (h | h) | h
  · exact .inl (.inl (by omega))
  · exact .inl (.inr (by omega))
  · exact .inr h
theorem op_mulA : OpR X (binaryOp .Mult) (rI (fun i j => CMul i j ∨ CMulW i j) fun i j => .int (i * j)) := opI fun _ _ _ _ _ _ _ hc q => mul_int q (hc.elim CMul.ok CMulW.ok)
theorem ro_mul : RO K cm (rI (fun i j => CMul i j ∨ CMulW i j) fun i j => .int (i * j)) cMul := ro_I fun x y z h => by
  unfold cMul at h
  split at h
  · split at h
    · cases h; exact ⟨_, _, rfl, rfl, mulOk_ok (by assumption), rfl⟩
    · cases h
  · cases h
theorem ro_div : RO K cm (rI CDivW fun i j => .int (i / j)) cDiv := ro_I fun x y z h => by
  unfold cDiv at h
  split at h
  · split at h
    · cases h; exact ⟨_, _, rfl, rfl, (by assumption), rfl⟩
    · cases h
  · cases h
theorem ro_mod : RO K cm (rI (fun _ j => 0 < j) fun i j => .int (i % j)) cMod := ro_I fun x y z h => by
  unfold cMod at h
  split at h
  · split at h
    · cases h; exact ⟨_, _, rfl, rfl, (by assumption), rfl⟩
    · cases h
  · cases h
theorem ro_pow : RO K cm (rI CPow fun i j => .int (i ^ j.toNat)) cPow := ro_I fun x y z h => by
  unfold cPow at h
  split at h
  · split at h
    · rename_i hz; cases h; exact ⟨_, _, rfl, rfl, ⟨hz.1, by have := hz.1; have := hz.2.1; omega, hz.2.2⟩, rfl⟩
    · cases h
  · cases h
theorem ro_shl : RO K cm (rI CPow fun i j => .int (i * 2 ^ j.toNat)) cShl := ro_I fun x y z h => by
  unfold cShl at h
  split at h
  · split at h
    · rename_i hz; cases h; exact ⟨_, _, rfl, rfl, ⟨hz.1, by have := hz.1; have := hz.2.1; omega, hz.2.2⟩, rfl⟩
    · cases h
  · cases h
theorem ro_shr : RO K cm (rI (fun _ j => 0 ≤ j) fun i j => .int (i / 2 ^ j.toNat)) cShr := ro_I fun x y z h => by
  unfold cShr at h
  split at h
  · split at h
    · cases h; exact ⟨_, _, rfl, rfl, (by assumption), rfl⟩
    · cases h
  · cases h
/-! ### comparisons -/
def sLt (a b : List Nat) : Bool := decide (a < b)
def cLt : D → D → Option D
  | .int i, .int j => some (.bl (decide (i < j)))
  | .str s, .str t => some (.bl (sLt s t))
  | _, _ => none
def cLe : D → D → Option D
  | .int i, .int j => some (.bl (decide (i ≤ j)))
  | .str s, .str t => some (.bl (!sLt t s))
  | _, _ => none
def cGt (x y : D) : Option D := cLt y x
def cGe (x y : D) : Option D := cLe y x
def cEq (x y : D) : Option D := if x.ok && y.ok then some (.bl (D.eq x y)) else none
def cNe (x y : D) : Option D := if x.ok && y.ok then some (.bl (!D.eq x y)) else none
theorem ro_S {f : Str → Str → Bool} {g : List Nat → List Nat → Bool} (h : ∀ s t, f (S s) (S t) = g s t) :
    RO K cm (fun x y H Q => ∃ i j, x = .str i ∧ y = .str j ∧ Q (.bl (f i j)) H) (fun x y => match x, y with | .str s, .str t => some (.bl (g s t)) | _, _ => none) := by
  intro A H x y dx dy dz Q hd hx hy e k
  cases dx <;> (try cases e) <;> cases dy <;> (try cases e)
  cases hx.str; cases hy.str
  refine ⟨_, _, rfl, rfl, ?_⟩
  rw [h]
  exact k _ H (.refl H) (.bl _)
theorem ro_lt : RO K cm (fun x y H Q => rI0 (fun i j => .bl (decide (i < j))) x y H Q ∨ (∃ i j, x = .str i ∧ y = .str j ∧ Q (.bl (decide (i.cps.toList < j.cps.toList))) H)) cLt :=
  (RO.or ro_B0 (ro_S (g := sLt) fun s t => by simp only [S_cps, sLt])).by fun x y z h => by cases x <;> cases y <;> simp_all [cLt, cB]
theorem ro_gt : RO K cm (fun x y H Q => rI0 (fun i j => .bl (decide (j < i))) x y H Q ∨ (∃ i j, x = .str i ∧ y = .str j ∧ Q (.bl (decide (j.cps.toList < i.cps.toList))) H)) cGt :=
  (RO.or ro_B0 (ro_S (g := fun s t => sLt t s) fun s t => by simp only [S_cps, sLt])).by fun x y z h => by cases x <;> cases y <;> simp_all [cLt, cB, cGt]
theorem ro_le : RO K cm (fun x y H Q => rI0 (fun i j => .bl (decide (i ≤ j))) x y H Q ∨ (∃ i j, x = .str i ∧ y = .str j ∧ Q (.bl (!decide (j.cps.toList < i.cps.toList))) H)) cLe :=
  (RO.or ro_B0 (ro_S (g := fun s t => !sLt t s) fun s t => by simp only [S_cps, sLt])).by fun x y z h => by cases x <;> cases y <;> simp_all [cLe, cB]
theorem ro_ge : RO K cm (fun x y H Q => rI0 (fun i j => .bl (decide (j ≤ i))) x y H Q ∨ (∃ i j, x = .str i ∧ y = .str j ∧ Q (.bl (!decide (i.cps.toList < j.cps.toList))) H)) cGe :=
  (RO.or ro_B0 (ro_S (g := fun s t => !sLt s t) fun s t => by simp only [S_cps, sLt])).by fun x y z h => by cases x <;> cases y <;> simp_all [cLe, cB, cGe]
theorem op_ltA : OpR X (compareOp .Lt) (fun x y H Q => rI0 (fun i j => .bl (decide (i < j))) x y H Q ∨ (∃ i j, x = .str i ∧ y = .str j ∧ Q (.bl (decide (i.cps.toList < j.cps.toList))) H)) := op_lt.or op_lt_str
theorem op_leA : OpR X (compareOp .LtE) (fun x y H Q => rI0 (fun i j => .bl (decide (i ≤ j))) x y H Q ∨ (∃ i j, x = .str i ∧ y = .str j ∧ Q (.bl (!decide (j.cps.toList < i.cps.toList))) H)) := op_le.or op_le_str
theorem op_gtA : OpR X (compareOp .Gt) (fun x y H Q => rI0 (fun i j => .bl (decide (j < i))) x y H Q ∨ (∃ i j, x = .str i ∧ y = .str j ∧ Q (.bl (decide (j.cps.toList < i.cps.toList))) H)) := op_gt.or op_gt_str
theorem op_geA : OpR X (compareOp .GtE) (fun x y H Q => rI0 (fun i j => .bl (decide (j ≤ i))) x y H Q ∨ (∃ i j, x = .str i ∧ y = .str j ∧ Q (.bl (!decide (i.cps.toList < j.cps.toList))) H)) := op_ge.or op_ge_str
theorem ro_eq : RO K cm (rEqD K) cEq := by
  intro A H x y dx dy dz Q hd hx hy e k
  unfold cEq at e
  split at e
  · rename_i h
    cases e
    rw [Bool.and_eq_true] at h
    have f1 : dx.flat = true := by have := h.1; unfold D.ok at this; rw [Bool.and_eq_true] at this; exact this.1
    have f2 : dy.flat = true := by have := h.2; unfold D.ok at this; rw [Bool.and_eq_true] at this; exact this.1
    refine ⟨_, _, hx.dp f1, hy.dp f2, D.shaped h.1, D.shaped h.2, ?_⟩
    rw [D.eq_py _ _ f1 f2]
    exact k _ H (.refl H) (.bl _)
  · cases e
theorem ro_ne : RO K cm (rNeD K) cNe := by
  intro A H x y dx dy dz Q hd hx hy e k
  unfold cNe at e
  split at e
  · rename_i h
    cases e
    rw [Bool.and_eq_true] at h
    have f1 : dx.flat = true := by have := h.1; unfold D.ok at this; rw [Bool.and_eq_true] at this; exact this.1
    have f2 : dy.flat = true := by have := h.2; unfold D.ok at this; rw [Bool.and_eq_true] at this; exact this.1
    refine ⟨_, _, hx.dp f1, hy.dp f2, D.shaped h.1, D.shaped h.2, ?_⟩
    rw [D.eq_py _ _ f1 f2]
    exact k _ H (.refl H) (.bl _)
  · cases e
/-! ### is -/
def isD : D → D → Option D
  | x, .non => some (.bl (match x with | .non => true | _ => false))
  | x, .bl b => some (.bl (match x with | .bl a => decide (a = b) | _ => false))
  | _, _ => none
def notD (x y : D) : Option D := (isD x y).bind fun d => match d with
  | .bl b => some (.bl !b)
  | _ => none
def rIs (neg : Bool) : R2 := fun x y H Q => (y = .non ∨ ∃ b, y = .bl b) ∧ Q (.bl (if neg then !decide (x = y) else decide (x = y))) H
theorem rel_beq {x y : V} {v u : Value} (hy : y = .non ∨ ∃ b, y = .bl b) (rx : RelV x v) (ry : RelV y u) : plainIs v u = true ∧ (v == u) = decide (x = y) := by
  rcases hy with rfl | ⟨b, rfl⟩
  · cases (show u = Value.none from ry)
    cases x <;> first
      | (cases (show v = _ from rx); exact ⟨rfl, by simp⟩)
      | (obtain ⟨t, rfl⟩ := rx; exact ⟨rfl, by simp⟩)
  · cases (show u = Value.bool b from ry)
    cases x <;> first
      | (cases (show v = _ from rx); exact ⟨rfl, by first | (rename_i a; cases a <;> cases b <;> rfl) | simp⟩)
      | (obtain ⟨t, rfl⟩ := rx; exact ⟨rfl, by simp⟩)
theorem op_isA : OpR X (compareOp .Is) (rIs false) := by
  intro pins s σ H x y v u Q I rx ry h
  obtain ⟨hy, q⟩ := h
  obtain ⟨h1, h2⟩ := rel_beq hy rx ry
  exact wpAny_is_plain h1 (by rw [h2]; exact ⟨.bl _, H, I, rfl, q⟩)
theorem op_isnotA : OpR X (compareOp .IsNot) (rIs true) := by
  intro pins s σ H x y v u Q I rx ry h
  obtain ⟨hy, q⟩ := h
  obtain ⟨h1, h2⟩ := rel_beq hy rx ry
  exact wpAny_isNot_plain h1 (by rw [h2]; exact ⟨.bl _, H, I, rfl, q⟩)
theorem isD_v {A : AS} {H : Hp} {x y : V} {dx dy dz : D} (hx : Ro K cm A H x dx) (hy : Ro K cm A H y dy) (e : isD dx dy = some dz) : (y = .non ∨ ∃ b, y = .bl b) ∧ dz = .bl (decide (x = y)) := by
  cases dy <;> (try cases e)
  · cases hy.non
    refine ⟨.inl rfl, ?_⟩
    cases hx with
    | of h => cases h <;> simp
    | lst => simp
    | dic => simp
    | dit => simp
  · rename_i b
    cases hy.bl
    refine ⟨.inr ⟨_, rfl⟩, ?_⟩
    cases hx with
    | of h => cases h <;> simp
    | lst => simp
    | dic => simp
    | dit => simp
theorem ro_is : RO K cm (rIs false) isD := by
  intro A H x y dx dy dz Q hd hx hy e k
  obtain ⟨h1, rfl⟩ := isD_v hx hy e
  exact ⟨h1, k _ H (.refl H) (.bl _)⟩
theorem ro_isnot : RO K cm (rIs true) notD := by
  intro A H x y dx dy dz Q hd hx hy e k
  unfold notD at e
  rw [Option.bind_eq_some_iff] at e
  obtain ⟨d, e1, e2⟩ := e
  obtain ⟨h1, rfl⟩ := isD_v hx hy e1
  cases e2
  exact ⟨h1, k _ H (.refl H) (.bl _)⟩
end
end G

/-! Ly4: tests, displays, items, slices; statements. -/
namespace G
open PySem PySem.Spec L2

section
variable {K : PySem.W.Frag} {cm : Cm} {A A' : AS} {H H' : Hp} {C : Fc} {σ : L2.St} {ρ ρ' : Rho}
/-- what was put aside is laid down -/
theorem RS.drop {F : List Addr} (hF : ∀ a ∈ F, ¬ C.A0 a) (R : RS K cm C A F σ H ρ) : RS K cm C (fun a => A a ∧ a ∉ F) [] σ H ρ := by
  obtain ⟨G', h1, h2, h3, h4, h5⟩ := R.sl
  have lt : Later A H (fun a => A a ∧ a ∉ F) H := (Later.refl A H).less fun a z => z.1
  refine ⟨R.len, ⟨G', h1, h2, fun i a m => ⟨⟨(h3 i a m).1, (h3 i a m).2.2⟩, (h3 i a m).2.1, fun z => nomatch z⟩, h4, fun i s e => ?_⟩, fun a z => ⟨R.out a z, fun q => hF a q z⟩, fun a z => R.sub a z.1, fun a z => R.dom a z.1, R.fr, R.fd, R.tb, fun a z => R.ne a z.1⟩
  obtain ⟨o, e1, r⟩ := h5 i s e
  exact ⟨o, e1, r.keep lt fun a _ o q _ => q⟩
/-- a slot is filled -/
theorem RS.set {F : List Addr} {i : Nat} {v : V} {t : T} (R : RS K cm C A F σ H ρ) (hi : ∃ s, ρ[i]? = some s ∧ ∀ t, s ≠ .pin t) (h : RT K cm A H v t F) (hn : F.Nodup) (hF : ∀ a ∈ F, C.H0 a = none ∧ A a ∧ ¬ C.A0 a) :
    RS K cm C A [] (σ.set i (some v)) H (ρ.set i (.v t)) := by
  obtain ⟨G', h1, h2, h3, h4, h5⟩ := R.sl
  obtain ⟨s0, hs0, _⟩ := hi
  have hil : i < ρ.length := (List.getElem?_eq_some_iff.mp hs0).1
  refine ⟨by rw [List.length_set, List.length_set]; exact R.len, ⟨fun j => if j = i then F else G' j, fun j => ?_, fun j k a m m' => ?_, fun j a m => ?_, fun j e => ?_, fun j s e => ?_⟩, R.out, R.sub, R.dom, R.fr, R.fd, R.tb, R.ne⟩
  · dsimp only; split
    · exact hn
    · exact h1 j
  · dsimp only at m m'
    by_cases hj : j = i <;> by_cases hk : k = i
    · rw [hj, hk]
    · rw [if_pos hj] at m; rw [if_neg hk] at m'
      exact absurd m (h3 k a m').2.2
    · rw [if_neg hj] at m; rw [if_pos hk] at m'
      exact absurd m' (h3 j a m).2.2
    · rw [if_neg hj] at m; rw [if_neg hk] at m'
      exact h2 j k a m m'
  · dsimp only at m
    by_cases hj : j = i
    · rw [if_pos hj] at m
      exact ⟨(hF a m).2.1, (hF a m).2.2, fun z => nomatch z⟩
    · rw [if_neg hj] at m
      exact ⟨(h3 j a m).1, (h3 j a m).2.1, fun z => nomatch z⟩
  · dsimp only
    by_cases hj : j = i
    · subst hj
      rw [List.getElem?_set_self hil] at e; cases e
    · rw [if_neg hj]
      rw [List.getElem?_set_ne (Ne.symm hj)] at e
      exact h4 j e
  · dsimp only
    by_cases hj : j = i
    · subst hj
      rw [List.getElem?_set_self hil] at e; cases e
      refine ⟨some v, ?_, ?_⟩
      · rw [List.getElem?_set_self (by rw [R.len]; exact hil)]
      · rw [if_pos rfl]
        exact ⟨v, rfl, h, fun a m => (hF a m).1⟩
    · rw [if_neg hj]
      rw [List.getElem?_set_ne (Ne.symm hj)] at e
      obtain ⟨o, e1, r⟩ := h5 j s e
      refine ⟨o, by rw [List.getElem?_set_ne (Ne.symm hj)]; exact e1, ?_⟩
      exact r
end
end G

/-! Ly5: tests, displays, items, slices; statements. -/
namespace G
open PySem PySem.Spec L2

/-! ### new and kept -/
def nVal (f : Em) : Rho → Option (T × Rho) := fun ρ => (f ρ).bind fun p => (pu p.2 p.1).map fun d => (.p d, p.2)
def eFrz (f : Rho → Option (T × Rho)) : Em := fun ρ => (f ρ).map fun p => (.val p.1.d, p.2)
section
variable {X : Cx} {cm : Cm} {pos : Pos} {e a b c : Expr} {es : List Expr}
theorem fn_val {f : Em} (h : FE X cm e f) : FN X cm e (nVal f) := h.imp fun σ H Q ⟨C, A, ρ, t, ρ', R, q, k⟩ => by
  unfold nVal at q
  simp only [Option.bind_eq_some_iff, Option.map_eq_some_iff] at q
  obtain ⟨⟨r, ρ1⟩, h1, d, h2, h3⟩ := q
  cases h3
  exact ⟨C, A, ρ, r, ρ1, R, h1, fun v H' A' l R' w => k v H' A' [] l R' ⟨rfl, pu_ok R' w h2⟩ .nil fun a m => nomatch m⟩
theorem fe_frz {f : Rho → Option (T × Rho)} (h : FN X cm e f) : FE X cm e (eFrz f) := h.imp fun σ H Q ⟨C, A, ρ, r, ρ', R, q, k⟩ => by
  unfold eFrz at q
  simp only [Option.map_eq_some_iff] at q
  obtain ⟨⟨t, ρ1⟩, h1, h3⟩ := q
  cases h3
  refine ⟨C, A, ρ, t, ρ1, R, h1, fun v H' A' F l R' rt hn hF => ?_⟩
  have l' : Lt C A' H' (fun a => A' a ∧ a ∉ F) H' := (Lt.refl A' H').less fun a z => z.1
  exact k v H' _ (l.trans l') (RS.drop (fun a m => (hF a m).2.2) R') (rt.frz l'.l fun a m z => z.2 m)

/-! ### truth -/
abbrev Bm := Rho → Option (Bool × Rho)
def bAnd (f g : Bm) : Bm := fun ρ => (f ρ).bind fun p => if p.1 then g p.2 else some (false, p.2)
def bOr (f g : Bm) : Bm := fun ρ => (f ρ).bind fun p => if p.1 then some (true, p.2) else g p.2
def bNot (f : Bm) : Bm := fun ρ => (f ρ).map fun p => (!p.1, p.2)
theorem fw_one {op : BoolOp} {f : Bm} (h : FB X cm a f) (ho : op = .And ∨ op = .Or) : FW X cm (.BoolOp op [a] pos) f := by
  rcases ho with rfl | rfl
  · exact pw_and1 h
  · exact pw_or1 h
theorem fw_and {f g : Bm} {rest : List Expr} (ha : FB X cm a f) (hb : FW X cm (.BoolOp .And (b :: rest) pos) g) : FW X cm (.BoolOp .And (a :: b :: rest) pos) (bAnd f g) :=
  (pw_and ha hb).imp fun σ H Q ⟨C, A, ρ, t, ρ', R, q, k⟩ => by
    unfold bAnd at q
    rw [Option.bind_eq_some_iff] at q
    obtain ⟨⟨x, ρ1⟩, h1, h2⟩ := q
    refine ⟨C, A, ρ, x, ρ1, R, h1, fun H1 A1 l1 R1 => ?_⟩
    cases x with
    | true => exact iteT ⟨C, A1, ρ1, t, ρ', R1, h2, fun H2 A2 l2 R2 => k H2 A2 (l1.trans l2) R2⟩
    | false => cases h2; exact iteF (k H1 A1 l1 R1)
theorem fw_or {f g : Bm} {rest : List Expr} (ha : FB X cm a f) (hb : FW X cm (.BoolOp .Or (b :: rest) pos) g) : FW X cm (.BoolOp .Or (a :: b :: rest) pos) (bOr f g) :=
  (pw_or ha hb).imp fun σ H Q ⟨C, A, ρ, t, ρ', R, q, k⟩ => by
    unfold bOr at q
    rw [Option.bind_eq_some_iff] at q
    obtain ⟨⟨x, ρ1⟩, h1, h2⟩ := q
    refine ⟨C, A, ρ, x, ρ1, R, h1, fun H1 A1 l1 R1 => ?_⟩
    cases x with
    | false => exact iteF ⟨C, A1, ρ1, t, ρ', R1, h2, fun H2 A2 l2 R2 => k H2 A2 (l1.trans l2) R2⟩
    | true => cases h2; exact iteT (k H1 A1 l1 R1)
theorem fb_w {f : Bm} (h : FW X cm e f) : FB X cm e f := h.pt
theorem fb_not {f : Bm} (h : FB X cm a f) : FB X cm (.UnaryOp .Not a pos) (bNot f) :=
  (pt_not h).imp fun σ H Q ⟨C, A, ρ, t, ρ', R, q, k⟩ => by
    unfold bNot at q
    rw [Option.map_eq_some_iff] at q
    obtain ⟨⟨x, ρ1⟩, h1, h2⟩ := q
    cases h2
    exact ⟨C, A, ρ, x, ρ1, R, h1, k⟩
/-- and, or, not as values -/
def eB (f : Bm) : Em := fun ρ => (f ρ).map fun p => (.val (.bl p.1), p.2)
def eOne (f : Em) : Em := f
def eAnd (f g : Em) : Em := fun ρ => (f ρ).bind fun p => match p.1 with
  | .val (.bl true) => g p.2
  | .val (.bl false) => some (.val (.bl false), p.2)
  | _ => none
def eOr (f g : Em) : Em := fun ρ => (f ρ).bind fun p => match p.1 with
  | .val (.bl false) => g p.2
  | .val (.bl true) => some (.val (.bl true), p.2)
  | _ => none
def eNot (f : Em) : Em := fun ρ => (f ρ).bind fun p => match p.1 with
  | .val (.bl b) => some (.val (.bl !b), p.2)
  | _ => none
theorem fe_one {op : BoolOp} {f : Em} (h : FE X cm a f) : FE X cm (.BoolOp op [a] pos) f := pe_one h
theorem fe_and {f g : Em} {rest : List Expr} (ha : FE X cm a f) (hb : FE X cm (.BoolOp .And (b :: rest) pos) g) : FE X cm (.BoolOp .And (a :: b :: rest) pos) (eAnd f g) :=
  (pe_and ha hb).imp fun σ H Q ⟨C, A, ρ, t, ρ', R, q, k⟩ => by
    unfold eAnd at q
    rw [Option.bind_eq_some_iff] at q
    obtain ⟨⟨x, ρ1⟩, h1, h2⟩ := q
    refine ⟨C, A, ρ, x, ρ1, R, h1, fun v1 H1 A1 l1 R1 w1 => ?_⟩
    dsimp only at h2
    split at h2
    · cases w1
      exact ⟨_, rfl, iteT ⟨C, A1, ρ1, t, ρ', R1, h2, fun v H2 A2 l2 R2 => k v H2 A2 (l1.trans l2) R2⟩⟩
    · cases w1; cases h2
      exact ⟨_, rfl, iteF (k _ H1 A1 l1 R1 (.bl _))⟩
    · cases h2
theorem fe_or {f g : Em} {rest : List Expr} (ha : FE X cm a f) (hb : FE X cm (.BoolOp .Or (b :: rest) pos) g) : FE X cm (.BoolOp .Or (a :: b :: rest) pos) (eOr f g) :=
  (pe_or ha hb).imp fun σ H Q ⟨C, A, ρ, t, ρ', R, q, k⟩ => by
    unfold eOr at q
    rw [Option.bind_eq_some_iff] at q
    obtain ⟨⟨x, ρ1⟩, h1, h2⟩ := q
    refine ⟨C, A, ρ, x, ρ1, R, h1, fun v1 H1 A1 l1 R1 w1 => ?_⟩
    dsimp only at h2
    split at h2
    · cases w1
      exact ⟨_, rfl, iteF ⟨C, A1, ρ1, t, ρ', R1, h2, fun v H2 A2 l2 R2 => k v H2 A2 (l1.trans l2) R2⟩⟩
    · cases w1; cases h2
      exact ⟨_, rfl, iteT (k _ H1 A1 l1 R1 (.bl _))⟩
    · cases h2
theorem fe_not {f : Em} (h : FE X cm a f) : FE X cm (.UnaryOp .Not a pos) (eNot f) :=
  (pe_not h).imp fun σ H Q ⟨C, A, ρ, t, ρ', R, q, k⟩ => by
    unfold eNot at q
    rw [Option.bind_eq_some_iff] at q
    obtain ⟨⟨x, ρ1⟩, h1, h2⟩ := q
    refine ⟨C, A, ρ, x, ρ1, R, h1, fun v1 H1 A1 l1 R1 w1 => ?_⟩
    dsimp only at h2
    split at h2
    · cases w1; cases h2
      exact ⟨_, rfl, k _ H1 A1 l1 R1 (.bl _)⟩
    · cases h2
def eIf (f : Bm) (g h : Em) : Em := fun ρ => (f ρ).bind fun p => if p.1 then g p.2 else h p.2
theorem fe_if {f : Bm} {g h : Em} (hc : FB X cm c f) (ha : FE X cm a g) (hb : FE X cm b h) : FE X cm (.IfExp c a b pos) (eIf f g h) :=
  (pe_ifExp hc ha hb).imp fun σ H Q ⟨C, A, ρ, t, ρ', R, q, k⟩ => by
    unfold eIf at q
    rw [Option.bind_eq_some_iff] at q
    obtain ⟨⟨x, ρ1⟩, h1, h2⟩ := q
    refine ⟨C, A, ρ, x, ρ1, R, h1, fun H1 A1 l1 R1 => ?_⟩
    cases x with
    | true => exact iteT ⟨C, A1, ρ1, t, ρ', R1, h2, fun v H2 A2 l2 R2 => k v H2 A2 (l1.trans l2) R2⟩
    | false => exact iteF ⟨C, A1, ρ1, t, ρ', R1, h2, fun v H2 A2 l2 R2 => k v H2 A2 (l1.trans l2) R2⟩
def nIf (f : Bm) (g h : Rho → Option (T × Rho)) : Rho → Option (T × Rho) := fun ρ => (f ρ).bind fun p => if p.1 then g p.2 else h p.2
theorem fn_if {f : Bm} {g h : Rho → Option (T × Rho)} (hc : FB X cm c f) (ha : FN X cm a g) (hb : FN X cm b h) : FN X cm (.IfExp c a b pos) (nIf f g h) :=
  (pe_ifExp hc ha hb).imp fun σ H Q ⟨C, A, ρ, t, ρ', R, q, k⟩ => by
    unfold nIf at q
    rw [Option.bind_eq_some_iff] at q
    obtain ⟨⟨x, ρ1⟩, h1, h2⟩ := q
    refine ⟨C, A, ρ, x, ρ1, R, h1, fun H1 A1 l1 R1 => ?_⟩
    cases x with
    | true => exact iteT ⟨C, A1, ρ1, t, ρ', R1, h2, fun v H2 A2 F l2 R2 => k v H2 A2 F (l1.trans l2) R2⟩
    | false => exact iteF ⟨C, A1, ρ1, t, ρ', R1, h2, fun v H2 A2 F l2 R2 => k v H2 A2 F (l1.trans l2) R2⟩
/-- a < b < c -/
def eChain (c1 c2 : D → D → Option D) (f g h : Em) : Em := fun ρ => (f ρ).bind fun p => (g p.2).bind fun q => (rd q.2 p.1).bind fun x => (rd q.2 q.1).bind fun y => (c1 x y).bind fun z => match z with
  | .bl true => (h q.2).bind fun r => (rd r.2 q.1).bind fun y' => (rd r.2 r.1).bind fun w => (c2 y' w).map fun u => (.val u, r.2)
  | .bl false => some (.val (.bl false), q.2)
  | _ => none
theorem tChain_of {K : PySem.W.Frag} {r1 r2 : R2} {c1 c2 : D → D → Option D} {f g h : Em} {σ : L2.St} {H : Hp} {Q : VK} (h1 : RO K cm r1 c1) (h2 : RO K cm r2 c2) (hh : tE K cm (eChain c1 c2 f g h) σ H Q) : tChain r1 r2 (tE K cm f) (tE K cm g) (tE K cm h) σ H Q := by
  obtain ⟨C, A, ρ, t, ρ', R, q, k⟩ := hh
  unfold eChain at q
  simp only [Option.bind_eq_some_iff] at q
  obtain ⟨⟨p, ρ1⟩, e1, ⟨q, ρ2⟩, e2, x, e3, y, e4, z, e5, e6⟩ := q
  refine ⟨C, A, ρ, p, ρ1, R, e1, fun v1 H1 A1 l1 R1 w1 => ⟨C, A1, ρ1, q, ρ2, R1, e2, fun v2 H2 A2 l2 R2 w2 => ?_⟩⟩
  refine h1 A2 H2 v1 v2 x y z _ R2.dom (rd_ok R2 (w1.later l2) e3) (rd_ok R2 w2 e4) e5 fun z' H3 g3 rz => ?_
  have R3 := R2.grow g3
  have l3 := (l1.trans l2).trans (Lt.same g3)
  dsimp only at e6
  split at e6
  · cases rz
    simp only [Option.bind_eq_some_iff, Option.map_eq_some_iff] at e6
    obtain ⟨⟨r, ρ3⟩, e7, y', e8, w, e9, u, e10, e11⟩ := e6
    cases e11
    refine ⟨_, rfl, iteT ⟨C, A2, ρ2, r, ρ3, R3, e7, fun v4 H4 A4 l4 R4 w4 => ?_⟩⟩
    exact h2 A4 H4 v2 v4 y' w u Q R4.dom (rd_ok R4 ((w2.later (.same (C := C) g3)).later l4) e8) (rd_ok R4 w4 e9) e10 fun z5 H5 g5 rz5 => k _ _ A4 ((l3.trans l4).trans (.same g5)) (R4.grow g5) rz5
  · cases rz
    cases e6
    exact ⟨_, rfl, iteF (k _ _ A2 l3 R3 (.bl _))⟩
  · cases e6
theorem fe_chain {op op' : CmpOp} {r1 r2 : R2} {c1 c2 : D → D → Option D} {f g h : Em} (ho : OpR X (compareOp op) r1) (ho' : OpR X (compareOp op') r2) (h1 : RO X.K cm r1 c1) (h2 : RO X.K cm r2 c2) (ha : FE X cm a f) (hb : FE X cm b g) (hc : FE X cm c h) (hm : lastMarks [op, op'] [b, c] = false := by rfl) :
    FE X cm (.Compare a [op, op'] [b, c] pos) (eChain c1 c2 f g h) := (pe_chain ho ho' ha hb hc hm).imp fun _ _ _ q => tChain_of h1 h2 q
theorem fb_chain {op op' : CmpOp} {r1 r2 : R2} {c1 c2 : D → D → Option D} {f g h : Em} (ho : OpR X (compareOp op) r1) (ho' : OpR X (compareOp op') r2) (h1 : RO X.K cm r1 c1) (h2 : RO X.K cm r2 c2) (ha : FE X cm a f) (hb : FE X cm b g) (hc : FE X cm c h) (hm : lastMarks [op, op'] [b, c] = false := by rfl) :
    FB X cm (.Compare a [op, op'] [b, c] pos) (bOf (eChain c1 c2 f g h)) := (pt_chain ho ho' ha hb hc hm).imp fun σ H Q q => tChain_of h1 h2 (tB_of q)

/-! ### argument lists, displays -/
abbrev Am := Rho → Option (List RV × Rho)
def aNil : Am := fun ρ => some ([], ρ)
def aCons (f : Em) (g : Am) : Am := fun ρ => (f ρ).bind fun p => (g p.2).map fun q => (p.1 :: q.1, q.2)
theorem fa_nil : FA X cm [] aNil := pa_nil.imp fun σ H Q ⟨C, A, ρ, t, ρ', R, q, k⟩ => by
  cases q
  exact k [] H A (.refl A H) R .nil
theorem fa_cons {f : Em} {g : Am} (ha : FE X cm e f) (hr : FA X cm es g) (hs : starEach (e :: es) X.env = (false, eval e X.env) :: starEach es X.env := by rfl) : FA X cm (e :: es) (aCons f g) :=
  (pa_cons ha hr hs).imp fun σ H Q ⟨C, A, ρ, t, ρ', R, q, k⟩ => by
    unfold aCons at q
    simp only [Option.bind_eq_some_iff, Option.map_eq_some_iff] at q
    obtain ⟨⟨r, ρ1⟩, h1, ⟨rs, ρ2⟩, h2, h3⟩ := q
    cases h3
    exact ⟨C, A, ρ, r, ρ1, R, h1, fun v1 H1 A1 l1 R1 w1 => ⟨C, A1, ρ1, rs, ρ2, R1, h2, fun vs H2 A2 l2 R2 w2 => k (v1 :: vs) H2 A2 (l1.trans l2) R2 (.cons (w1.later l2) w2)⟩⟩
def pus (ρ : Rho) : List RV → Option (List D)
  | [] => some []
  | r :: rs => (pu ρ r).bind fun d => (pus ρ rs).map fun ds => d :: ds
theorem pus_ok {K : PySem.W.Frag} {C : Fc} {A : AS} {σ : L2.St} {H : Hp} {ρ : Rho} (R : RS K cm C A [] σ H ρ) : ∀ {vs : List V} {rs : List RV} {ds : List D}, RRVs K cm A H σ vs rs → pus ρ rs = some ds → RpL K cm A H vs ds
  | _, _, _, .nil, e => by cases e; exact .nil
  | _, _, _, .cons h t, e => by
    unfold pus at e
    simp only [Option.bind_eq_some_iff, Option.map_eq_some_iff] at e
    obtain ⟨d, e1, ds, e2, e3⟩ := e
    cases e3
    exact .cons (pu_ok R h e1) (pus_ok R t e2)
def eTup (g : Am) : Em := fun ρ => (g ρ).bind fun p => (pus p.2 p.1).bind fun ds => if ds.length ≤ big then some (.val (.tup ds), p.2) else none
theorem fe_tup {g : Am} {x1 : Nat} (h : FA X cm es g) : FE X cm (.Tuple es x1 pos) (eTup g) := (pe_tup h).imp fun σ H Q ⟨C, A, ρ, t, ρ', R, q, k⟩ => by
  unfold eTup at q
  simp only [Option.bind_eq_some_iff] at q
  obtain ⟨⟨rs, ρ1⟩, h1, ds, h2, h3⟩ := q
  split at h3
  · rename_i hz
    cases h3
    refine ⟨C, A, ρ, rs, ρ1, R, h1, fun vs H1 A1 l1 R1 w1 => ?_⟩
    have r := pus_ok R1 w1 h2
    refine ⟨big_le (by rw [r.length]; exact hz), fun p hp => k _ _ A1 (l1.trans (.same (same_new hp))) (R1.grow (same_new hp)) (new_tup R1.dom hp r)⟩
  · cases h3
def nLst (g : Am) : Rho → Option (T × Rho) := fun ρ => (g ρ).bind fun p => (pus p.2 p.1).bind fun ds => if ds.length ≤ big then some (.ls ds, p.2) else none
/-- one fresh thing to own -/
theorem own1 {K : PySem.W.Frag} {C : Fc} {A : AS} {σ : L2.St} {H : Hp} {ρ : Rho} {p : Addr} {o : HO} (R : RS K cm C A [] σ H ρ) (hp : H p = none) (hpl : ∀ φ, o ≠ .ext φ := by intro _ z; cases z) :
    Lt C A H (fun a => A a ∨ a = p) (upd H p o) ∧ RS K cm C (fun a => A a ∨ a = p) [p] σ (upd H p o) ρ ∧ ∀ a ∈ [p], C.H0 a = none ∧ (A a ∨ a = p) ∧ ¬ C.A0 a := by
  have l : Later A H (fun a => A a ∨ a = p) (upd H p o) := ⟨(Later.same (A := A) (same_new hp)).st, fun a z => z.imp id fun z => by rw [z]; exact hp, (Later.same (A := A) (same_new hp)).dm⟩
  have h0 := R.new0 hp
  refine ⟨⟨l, fun a o _ e _ => same_new hp a o e⟩, ?_, fun a m => ?_⟩
  · obtain ⟨F, h1, h2, h3, h4, h5⟩ := R.sl
    refine ⟨R.len, ⟨F, h1, h2, fun i a m => ⟨.inl (h3 i a m).1, (h3 i a m).2.1, fun z => ?_⟩, h4, fun i s e => ?_⟩, fun a z => .inl (R.out a z), fun a z => z.elim (R.sub a) fun z => by rw [z]; exact .inr (.inr h0), fun a z => ?_, fun a o e t n => same_new hp a o (R.fr a o e t n), fun a z => l.dm a (R.fd a z), R.tb.ext (same_new hp), fun a z φ e => ?_⟩
    · obtain rfl : a = p := by simpa using z
      exact R.new hp (h3 i a m).1
    · obtain ⟨o, e1, r⟩ := h5 i s e
      exact ⟨o, e1, r.keep l fun a _ o q _ => same_new hp a o q⟩
    · rcases z with z | z
      · exact l.dm a (R.dom a z)
      · rw [z, upd_same]; exact fun z => nomatch z
    · rcases z with z | z
      · rw [upd_ne (fun w => R.new hp (by rw [← w]; exact z))] at e
        exact R.ne a z φ e
      · rw [z, upd_same] at e
        exact hpl φ (Option.some.inj e)
  · obtain rfl : a = p := by simpa using m
    exact ⟨h0, .inr rfl, fun z => R.new hp (R.out a z)⟩
theorem fn_lst {g : Am} (h : FA X cm es g) : FN X cm (.List es pos) (nLst g) := (pe_lst h).imp fun σ H Q ⟨C, A, ρ, t, ρ', R, q, k⟩ => by
  unfold nLst at q
  simp only [Option.bind_eq_some_iff] at q
  obtain ⟨⟨rs, ρ1⟩, h1, ds, h2, h3⟩ := q
  split at h3
  · rename_i hz
    cases h3
    refine ⟨C, A, ρ, rs, ρ1, R, h1, fun vs H1 A1 l1 R1 w1 => ?_⟩
    have r := pus_ok R1 w1 h2
    refine ⟨big_le (by rw [r.length]; exact hz), fun p hp => ?_⟩
    obtain ⟨l2, R2, hF⟩ := own1 (o := .lst vs) R1 hp
    exact k _ _ _ [p] (l1.trans l2) R2 ⟨p, vs, rfl, rfl, upd_same, r.later l2.l⟩ (by simp) hF
  · cases h3
def nDic0 : Rho → Option (T × Rho) := fun ρ => some (.di [], ρ)
def nDit0 : Rho → Option (T × Rho) := fun ρ => some (.dt [], ρ)
theorem fn_dic0 : FN X cm (.Dict [] [] pos) nDic0 := pe_dnewK.imp fun σ H Q ⟨C, A, ρ, t, ρ', R, q, k⟩ => by
  cases q
  intro p hp
  obtain ⟨l2, R2, hF⟩ := own1 (o := .dK []) R hp
  exact k _ _ _ [p] l2 R2 ⟨p, [], rfl, rfl, upd_same, .nil⟩ (by simp) hF
theorem fn_dit0 : FN X cm (.Dict [] [] pos) nDit0 := pe_dnewT.imp fun σ H Q ⟨C, A, ρ, t, ρ', R, q, k⟩ => by
  cases q
  intro p hp
  obtain ⟨l2, R2, hF⟩ := own1 (o := .dT []) R hp
  exact k _ _ _ [p] l2 R2 ⟨p, [], rfl, rfl, upd_same, .nil⟩ (by simp) hF
/-- a name whose thing is handed on: it is the name's no longer -/
def nMove (i : Nat) : Rho → Option (T × Rho) := fun ρ => match ρ[i]? with
  | some (.v (.p d)) => some (.p d, ρ)
  | some (.v t) => some (t, ρ.set i .no)
  | _ => none
theorem fn_move {i : Nat} (h : PE X e (tVar i)) : FN X cm e (nMove i) := h.imp fun σ H Q ⟨C, A, ρ, t, ρ', R, q, k⟩ => by
  obtain ⟨F, h1, h2, h3, h4, h5⟩ := R.sl
  unfold nMove at q
  split at q
  · rename_i d g
    cases q
    obtain ⟨o, e1, v, rfl, r, f⟩ := h5 i _ g
    exact ⟨v, e1, k v H A [] (.refl A H) R ⟨rfl, r.2⟩ .nil fun a m => nomatch m⟩
  · rename_i t' _ g
    cases q
    have hil : i < ρ.length := (List.getElem?_eq_some_iff.mp g).1
    obtain ⟨o, e1, v, rfl, r, f⟩ := h5 i _ g
    refine ⟨v, e1, k v H A (F i) (.refl A H) ⟨by rw [List.length_set]; exact R.len, ⟨fun j => if j = i then [] else F j, fun j => ?_, fun j l a m m' => ?_, fun j a m => ?_, fun j e => ?_, fun j s e => ?_⟩, R.out, R.sub, R.dom, R.fr, R.fd, R.tb, R.ne⟩ r (h1 i) fun a m => ⟨f a m, (h3 i a m).1, (h3 i a m).2.1⟩⟩
    · dsimp only; split
      · exact .nil
      · exact h1 j
    · dsimp only at m m'
      split at m <;> split at m' <;> first | cases m | cases m' | exact h2 j l a m m'
    · dsimp only at m
      split at m
      · cases m
      · rename_i hj
        exact ⟨(h3 j a m).1, (h3 j a m).2.1, fun z => hj (h2 j i a m z)⟩
    · dsimp only
      split
      · rfl
      · rename_i hj
        rw [List.getElem?_set_ne (Ne.symm hj)] at e
        exact h4 j e
    · dsimp only
      by_cases hj : j = i
      · subst hj
        rw [List.getElem?_set_self hil] at e; cases e
        refine ⟨_, e1, ?_⟩
        rw [if_pos rfl]; rfl
      · rw [if_neg hj]
        rw [List.getElem?_set_ne (Ne.symm hj)] at e
        exact h5 j s e
  · cases q
end
end G

/-! Ly6: statements, targets, loops. -/
namespace G
open PySem PySem.Spec L2

inductive Out where
  | nx (ρ : Rho) | rt (t : T) (ρ : Rho) | bk (ρ : Rho) | ct (ρ : Rho)
abbrev Sm := Rho → Option Out
section
variable (K : PySem.W.Frag) (cm : Cm)
def Kont (C : Fc) (A : AS) (H : Hp) (D : Ends) : Out → Prop
  | .nx ρ' => ∀ σ' H' A', Lt C A H A' H' → RS K cm C A' [] σ' H' ρ' → D.nx σ' H'
  | .bk ρ' => ∀ σ' H' A', Lt C A H A' H' → RS K cm C A' [] σ' H' ρ' → D.bk σ' H'
  | .ct ρ' => ∀ σ' H' A', Lt C A H A' H' → RS K cm C A' [] σ' H' ρ' → D.ct σ' H'
  | .rt t ρ' => ∀ v σ' H' A' F, Lt C A H A' H' → RS K cm C A' F σ' H' ρ' → RT K cm A' H' v t F → F.Nodup → (∀ a ∈ F, C.H0 a = none ∧ A' a ∧ ¬ C.A0 a) → D.rt v H'
def tS (g : Sm) : TS := fun D σ H => ∃ C A ρ o, RS K cm C A [] σ H ρ ∧ g ρ = some o ∧ Kont K cm C A H D o
/-- a target that takes d; is: the slots that it may change -/
def tG (is : List Nat) (h : D → Rho → Option Rho) : TG := fun v σ H Q => ∃ C A ρ d ρ', RS K cm C A [] σ H ρ ∧ Rp K cm A H v d ∧ h d ρ = some ρ' ∧
  ∀ σ' H' A', Lt C A H A' H' → RS K cm C A' [] σ' H' ρ' → σ'.length = σ.length → (∀ j, j ∉ is → σ'[j]? = σ[j]?) → Q σ' H'
def tGs (is : List Nat) (h : List D → Rho → Option Rho) : TGs := fun vs σ H Q => ∃ C A ρ ds ρ', RS K cm C A [] σ H ρ ∧ RpL K cm A H vs ds ∧ h ds ρ = some ρ' ∧
  ∀ σ' H' A', Lt C A H A' H' → RS K cm C A' [] σ' H' ρ' → σ'.length = σ.length → (∀ j, j ∉ is → σ'[j]? = σ[j]?) → Q σ' H'
/-- what is walked: ds -/
structure ItOk (J : It) (W : AS → Hp → Prop) (ds : List D) : Prop where
  stay : ∀ A H A' H', W A H → Later A H A' H' → W A' H'
  go : ∀ A H i, W A H → i < ds.length → J.go i H
  yld : ∀ A H i x H' d, W A H → (∀ a, A a → H a ≠ none) → ds[i]? = some d → J.yld i H x H' → Same H H' ∧ Rp K cm A H' x d
  stop : ∀ A H i, W A H → ds.length ≤ i → J.stop i H
abbrev Im := Rho → Option (List D × Rho)
def tI (f : Im) : TI := fun σ H R => ∃ C A ρ ds ρ', RS K cm C A [] σ H ρ ∧ f ρ = some (ds, ρ') ∧
  ∀ J H' A' W, Lt C A H A' H' → RS K cm C A' [] σ H' ρ' → ItOk K cm J W ds → W A' H' → R J H'
end
section
variable {K : PySem.W.Frag} {cm : Cm} {A A' : AS} {H H' : Hp} {C : Fc}
theorem RT.pure {v : V} {d : D} (r : Rp K cm A H v d) : RT K cm A H v (.p d) [] := ⟨rfl, r⟩
theorem Kont.later {D : Ends} {o : Out} (l : Lt C A H A' H') (k : Kont K cm C A H D o) : Kont K cm C A' H' D o := by
  cases o with
  | nx ρ => exact fun σ2 H2 A2 l2 R => k σ2 H2 A2 (l.trans l2) R
  | bk ρ => exact fun σ2 H2 A2 l2 R => k σ2 H2 A2 (l.trans l2) R
  | ct ρ => exact fun σ2 H2 A2 l2 R => k σ2 H2 A2 (l.trans l2) R
  | rt t ρ => exact fun v σ2 H2 A2 F l2 R => k v σ2 H2 A2 F (l.trans l2) R
end
section
variable (X : Cx) (cm : Cm)
abbrev FS (st : Stmt) (g : Sm) : Prop := PS X st (tS X.K cm g)
abbrev FSs (sts : List Stmt) (g : Sm) : Prop := PSs X sts (tS X.K cm g)
abbrev FG (tg : Expr) (is : List Nat) (h : D → Rho → Option Rho) : Prop := PG X tg (tG X.K cm is h)
abbrev FGs (tgs : List Expr) (is : List Nat) (h : List D → Rho → Option Rho) : Prop := PGs X tgs (tGs X.K cm is h)
abbrev FI (tg iter : Expr) (f : Im) : Prop := PI X tg iter (tI X.K cm f)
end
section
variable {X : Cx} {cm : Cm} {pos pos' : Pos} {e a b c tg iter : Expr} {es : List Expr} {st : Stmt} {sts : List Stmt}
theorem _root_.L2.PG.imp {e : Expr} {t t' : TG} (h : PG X e t) (i : ∀ v σ H Q, t' v σ H Q → t v σ H Q) : PG X e t' := ⟨fun pins s σ H v u Q I r q => h.run pins s σ H v u Q I r (i v σ H Q q)⟩
theorem _root_.L2.PGs.imp {e : List Expr} {t t' : TGs} (h : PGs X e t) (i : ∀ v σ H Q, t' v σ H Q → t v σ H Q) : PGs X e t' := ⟨fun pins s σ H v u Q I r q => h.run pins s σ H v u Q I r (i v σ H Q q)⟩
theorem _root_.L2.PI.imp {t t' : TI} (h : PI X tg iter t) (i : ∀ σ H R, t' σ H R → t σ H R) : PI X tg iter t' := ⟨fun pins s σ H R I q => h.run pins s σ H R I (i σ H R q)⟩
theorem _root_.L2.PI.or {t t' : TI} (h : PI X tg iter t) (h' : PI X tg iter t') : PI X tg iter (fun σ H R => t σ H R ∨ t' σ H R) := ⟨fun pins s σ H R I q => q.elim (h.run pins s σ H R I) (h'.run pins s σ H R I)⟩

/-! ### small statements -/
def sNil : Sm := fun ρ => some (.nx ρ)
def sSeq (g h : Sm) : Sm := fun ρ => (g ρ).bind fun o => match o with
  | .nx ρ1 => h ρ1
  | .rt t ρ1 => some (.rt t ρ1)
  | .bk ρ1 => some (.bk ρ1)
  | .ct ρ1 => some (.ct ρ1)
theorem fss_nil : FSs X cm [] sNil := pss_nil.imp fun D σ H ⟨C, A, ρ, o, R, q, k⟩ => by
  cases q
  exact k σ H A (.refl A H) R
theorem fss_cons {g h : Sm} (h1 : FS X cm st g) (h2 : FSs X cm sts h) : FSs X cm (st :: sts) (sSeq g h) := (pss_cons h1 h2).imp fun D σ H ⟨C, A, ρ, o, R, q, k⟩ => by
  unfold sSeq at q
  rw [Option.bind_eq_some_iff] at q
  obtain ⟨o1, h1, h2⟩ := q
  refine ⟨C, A, ρ, o1, R, h1, ?_⟩
  cases o1 with
  | nx ρ1 => exact fun σ1 H1 A1 l1 R1 => ⟨C, A1, ρ1, o, R1, h2, k.later l1⟩
  | rt t ρ1 => cases h2; exact k
  | bk ρ1 => cases h2; exact k
  | ct ρ1 => cases h2; exact k
theorem fss_one {g : Sm} (h1 : FS X cm st g) : FSs X cm [st] g := pss_one h1
def sNever : Sm := fun _ => none
theorem fs_never : FS X cm st sNever := ps_never.imp fun D σ H ⟨C, A, ρ, o, R, q, k⟩ => by cases q
theorem fs_pass : FS X cm (.Pass pos) sNil := ps_pass.imp fun D σ H ⟨C, A, ρ, o, R, q, k⟩ => by
  cases q
  exact k σ H A (.refl A H) R
def sBreak : Sm := fun ρ => some (.bk ρ)
def sCont : Sm := fun ρ => some (.ct ρ)
theorem fs_break : FS X cm (.Break pos) sBreak := ps_break.imp fun D σ H ⟨C, A, ρ, o, R, q, k⟩ => by
  cases q
  exact k σ H A (.refl A H) R
theorem fs_cont : FS X cm (.Continue pos) sCont := ps_continue.imp fun D σ H ⟨C, A, ρ, o, R, q, k⟩ => by
  cases q
  exact k σ H A (.refl A H) R
def sE (f : Em) : Sm := fun ρ => (f ρ).map fun p => .nx p.2
theorem fs_expr {f : Em} (h : FE X cm e f) (hs : swapsWith e none pos.line X.env = pure false := by rfl) : FS X cm (.Expr e pos) (sE f) := (ps_expr h hs).imp fun D σ H ⟨C, A, ρ, o, R, q, k⟩ => by
  unfold sE at q
  rw [Option.map_eq_some_iff] at q
  obtain ⟨⟨r, ρ1⟩, h1, h2⟩ := q
  cases h2
  exact ⟨C, A, ρ, r, ρ1, R, h1, fun v H1 A1 l1 R1 _ => k σ H1 A1 l1 R1⟩
def sRet (f : Rho → Option (T × Rho)) : Sm := fun ρ => (f ρ).map fun p => .rt p.1 p.2
theorem fs_ret {f : Rho → Option (T × Rho)} (h : FN X cm e f) : FS X cm (.Return (some e) pos) (sRet f) := (ps_ret h).imp fun D σ H ⟨C, A, ρ, o, R, q, k⟩ => by
  unfold sRet at q
  rw [Option.map_eq_some_iff] at q
  obtain ⟨⟨t, ρ1⟩, h1, h2⟩ := q
  cases h2
  exact ⟨C, A, ρ, t, ρ1, R, h1, fun v H1 A1 F l1 R1 rt hn hF => k v σ H1 A1 F l1 R1 rt hn hF⟩
def sRetN : Sm := fun ρ => some (.rt (.p .non) ρ)
theorem fs_retN : FS X cm (.Return none pos) sRetN := ps_retN.imp fun D σ H ⟨C, A, ρ, o, R, q, k⟩ => by
  cases q
  exact k _ σ H A [] (.refl A H) R ⟨rfl, .non⟩ .nil fun a m => nomatch m
def sIf (f : Bm) (g h : Sm) : Sm := fun ρ => (f ρ).bind fun p => if p.1 then g p.2 else h p.2
theorem fs_if {f : Bm} {g h : Sm} {p q : List Stmt} (hc : FB X cm c f) (ha : FSs X cm p g) (hb : FSs X cm q h) : FS X cm (.If c p q pos) (sIf f g h) := (ps_if hc ha hb).imp fun D σ H ⟨C, A, ρ, o, R, q, k⟩ => by
  unfold sIf at q
  rw [Option.bind_eq_some_iff] at q
  obtain ⟨⟨x, ρ1⟩, h1, h2⟩ := q
  refine ⟨C, A, ρ, x, ρ1, R, h1, fun H1 A1 l1 R1 => ?_⟩
  cases x with
  | true => exact iteT ⟨C, A1, ρ1, o, R1, h2, k.later l1⟩
  | false => exact iteF ⟨C, A1, ρ1, o, R1, h2, k.later l1⟩

/-! ### stores -/
def setV (i : Nat) (t : T) (ρ : Rho) : Option Rho := match ρ[i]? with
  | some .no => some (ρ.set i (.v t))
  | some (.v _) => some (ρ.set i (.v t))
  | _ => none
theorem setV_some {i : Nat} {t : T} {ρ ρ' : Rho} (h : setV i t ρ = some ρ') : (∃ s, ρ[i]? = some s ∧ ∀ t, s ≠ .pin t) ∧ ρ' = ρ.set i (.v t) := by
  unfold setV at h
  split at h
  · rename_i e; cases h; exact ⟨⟨_, e, fun _ z => nomatch z⟩, rfl⟩
  · rename_i e; cases h; exact ⟨⟨_, e, fun _ z => nomatch z⟩, rfl⟩
  · cases h
def sAsg (i : Nat) (f : Rho → Option (T × Rho)) : Sm := fun ρ => (f ρ).bind fun p => (setV i p.1 p.2).map .nx
theorem sAsg_of {K : PySem.W.Frag} {i : Nat} {f : Rho → Option (T × Rho)} {D : Ends} {σ : L2.St} {H : Hp} (h : tS K cm (sAsg i f) D σ H) : tN K cm f σ H (fun x H1 => D.nx (σ.set i (some x)) H1) := by
  obtain ⟨C, A, ρ, o, R, q, k⟩ := h
  unfold sAsg at q
  simp only [Option.bind_eq_some_iff, Option.map_eq_some_iff] at q
  obtain ⟨⟨t, ρ1⟩, h1, ρ2, h2, h3⟩ := q
  cases h3
  refine ⟨C, A, ρ, t, ρ1, R, h1, fun v H1 A1 F l1 R1 rt hn hF => ?_⟩
  obtain ⟨hs, rfl⟩ := setV_some h2
  exact k _ H1 A1 l1 (R1.set hs rt hn hF)
theorem fs_asg {i : Nat} {x : Str} {f : Rho → Option (T × Rho)} (hN : X.N.Nodup) (hi : X.N[i]? = some x) (hx : Loc X.env.scope x) (h : FN X cm e f) (hs : swapsWith e (some (.Name x pos')) pos.line X.env = pure false := by rfl) (hf : X.fn x = true ∨ X.env.scope.names.lookup x = some .local := by first | exact .inl rfl | exact .inr rfl | assumption) :
    FS X cm (.Assign [.Name x pos'] e pos) (sAsg i f) := (ps_set hN hi hx h hs hf).imp fun D σ H q => sAsg_of q
def sPar (i j : Nat) (g : Am) : Sm := fun ρ => (g ρ).bind fun p => (pus p.2 p.1).bind fun ds => match ds with
  | [d, e] => (setV i (.p d) p.2).bind fun ρ1 => (setV j (.p e) ρ1).map .nx
  | _ => none
theorem fs_par {i j : Nat} {x y : Str} {g : Am} {px py pt : Pos} {kt k2 : Nat} {pt2 : Pos} (hc : X.calm = true) (hN : X.N.Nodup) (hi : X.N[i]? = some x) (hj : X.N[j]? = some y) (hij : i ≠ j) (ha : FA X cm [a, b] g)
    (hx : X.env.scope.names.lookup x = some .local) (hy : X.env.scope.names.lookup y = some .local) (hw : swappedStores [.Tuple [.Name x px, .Name y py] kt pt] (.Tuple [a, b] k2 pt2) X.env = pure (some [x, y]) := by rfl) :
    FS X cm (.Assign [.Tuple [.Name x px, .Name y py] kt pt] (.Tuple [a, b] k2 pt2) pos) (sPar i j g) := (ps_par hc hN hi hj hij hx hy ha hw).imp fun D σ H ⟨C, A, ρ, o, R, q, k⟩ => by
  unfold sPar at q
  simp only [Option.bind_eq_some_iff] at q
  obtain ⟨⟨rs, ρ1⟩, h1, ds, h2, h3⟩ := q
  refine ⟨C, A, ρ, rs, ρ1, R, h1, fun vs H1 A1 l1 R1 w1 => ?_⟩
  have r := pus_ok R1 w1 h2
  dsimp only at h3
  split at h3
  · simp only [Option.bind_eq_some_iff, Option.map_eq_some_iff] at h3
    obtain ⟨ρ2, h4, ρ3, h5, h6⟩ := h3
    cases h6
    cases r with
    | cons r1 r => cases r with
      | cons r2 r => cases r with
        | nil =>
          obtain ⟨hs, rfl⟩ := setV_some h4
          obtain ⟨hs', rfl⟩ := setV_some h5
          refine ⟨_, _, rfl, k _ H1 A1 l1 ?_⟩
          have R2 := RS.set R1 hs (RT.pure r1) .nil fun a m => nomatch m
          exact RS.set R2 hs' (RT.pure r2) .nil fun a m => nomatch m
  · cases h3
/-! targets -/
def hName (i : Nat) : D → Rho → Option Rho := fun d ρ => setV i (.p d) ρ
theorem fg_name {i : Nat} (h : PG X e (gName i)) : FG X cm e [i] (hName i) := h.imp fun v σ H Q ⟨C, A, ρ, d, ρ', R, r, q, k⟩ => by
  obtain ⟨hs, rfl⟩ := setV_some q
  refine k _ H A (.refl A H) (RS.set R hs (RT.pure r) .nil fun a m => nomatch m) (by rw [List.length_set]) fun j hj => ?_
  rw [List.getElem?_set_ne]
  simpa using fun z => hj (by simp [z])
def hNil : List D → Rho → Option Rho := fun ds ρ => match ds with
  | [] => some ρ
  | _ => none
def hCons (h : D → Rho → Option Rho) (hs : List D → Rho → Option Rho) : List D → Rho → Option Rho := fun ds ρ => match ds with
  | d :: r => (h d ρ).bind fun ρ1 => hs r ρ1
  | _ => none
theorem fgs_nil : FGs X cm [] [] hNil := pgs_nil.imp fun vs σ H Q ⟨C, A, ρ, ds, ρ', R, r, q, k⟩ => by
  cases r with
  | nil => cases q; exact ⟨rfl, k σ H A (.refl A H) R rfl fun _ _ => rfl⟩
  | cons _ _ => cases q
theorem fgs_cons {is js : List Nat} {h : D → Rho → Option Rho} {hs : List D → Rho → Option Rho} (h1 : FG X cm e is h) (h2 : FGs X cm es js hs) (hq : (assignEach (e :: es) X.env).map (·.2) = assign e X.env :: (assignEach es X.env).map (·.2) := by rfl) : FGs X cm (e :: es) (is ++ js) (hCons h hs) :=
  (pgs_cons h1 h2 hq).imp fun vs σ H Q ⟨C, A, ρ, ds, ρ', R, r, q, k⟩ => by
    cases r with
    | nil => cases q
    | cons r0 rr =>
      simp only [hCons, Option.bind_eq_some_iff] at q
      obtain ⟨ρ1, q1, q2⟩ := q
      refine ⟨_, _, rfl, C, A, ρ, _, ρ1, R, r0, q1, fun σ1 H1 A1 l1 R1 e1 f1 => ⟨C, A1, ρ1, _, ρ', R1, rr.later l1.l, q2, fun σ2 H2 A2 l2 R2 e2 f2 => k σ2 H2 A2 (l1.trans l2) R2 (e2.trans e1) fun j hj => ?_⟩⟩
      rw [List.mem_append, not_or] at hj
      rw [f2 j hj.2, f1 j hj.1]
def hTup (n : Nat) (hs : List D → Rho → Option Rho) : D → Rho → Option Rho := fun d ρ => match d with
  | .tup ds => if ds.length = n then hs ds ρ else none
  | _ => none
theorem fg_tup {is : List Nat} {hs : List D → Rho → Option Rho} {n k : Nat} (hc : X.calm = true) (h : FGs X cm es is hs) (hn : (assignEach es X.env).length = n := by rfl) (hst : (assignEach es X.env).findIdx? (·.1) = none := by rfl) : FG X cm (.Tuple es k pos) is (hTup n hs) :=
  (pg_tup hc h hn hst).imp fun v σ H Q ⟨C, A, ρ, d, ρ', R, r, q, k⟩ => by
    unfold hTup at q
    split at q
    · rename_i ds
      split at q
      · rename_i hl
        cases r with
        | tup r rr => exact ⟨_, _, rfl, r.sq, by rw [rr.length]; exact hl, C, A, ρ, ds, ρ', R, rr, q, k⟩
      · cases q
    · cases q
def sT (f : Em) (h : D → Rho → Option Rho) : Sm := fun ρ => (f ρ).bind fun p => (pu p.2 p.1).bind fun d => (h d p.2).map .nx
theorem fs_tgt {f : Em} {is : List Nat} {h : D → Rho → Option Rho} (he : FE X cm e f) (hg : FG X cm tg is h) (hs : swapsWithSole [tg] e pos.line X.env = pure false := by rfl) (hw : swappedStores [tg] e X.env = pure none := by rfl) (h1 : (assignEach [tg] X.env).map (·.2) = [assign tg X.env] := by rfl) : FS X cm (.Assign [tg] e pos) (sT f h) :=
  (ps_asg he hg hs hw h1).imp fun D σ H ⟨C, A, ρ, o, R, q, k⟩ => by
    unfold sT at q
    simp only [Option.bind_eq_some_iff, Option.map_eq_some_iff] at q
    obtain ⟨⟨r, ρ1⟩, h1, d, h2, ρ2, h3, h4⟩ := q
    cases h4
    exact ⟨C, A, ρ, r, ρ1, R, h1, fun v H1 A1 l1 R1 w1 => ⟨C, A1, ρ1, d, ρ2, R1, pu_ok R1 w1 h2, h3, fun σ2 H2 A2 l2 R2 _ _ => k σ2 H2 A2 (l1.trans l2) R2⟩⟩

/-! ### loops -/
def whileF (c : Bm) (b : Sm) : Nat → Sm
  | 0 => fun _ => none
  | n + 1 => fun ρ => (c ρ).bind fun p => if p.1 then (b p.2).bind fun o => match o with
      | .nx ρ2 => whileF c b n ρ2
      | .ct ρ2 => whileF c b n ρ2
      | .bk ρ2 => some (.nx ρ2)
      | .rt t ρ2 => some (.rt t ρ2)
    else some (.nx p.2)
theorem fs_while {N : Nat} {f : Bm} {g : Sm} {body : List Stmt} (hp : PassesOwn (model X.prog X.w) X.A X.env X.xe) (hc : FB X cm c f) (hb : FSs X cm body g) : FS X cm (.While c body [] pos) (whileF f g N) :=
  (ps_while hp hc hb).imp fun D σ H ⟨C, A, ρ, o, R, q, k⟩ => by
    refine ⟨fun m σ1 H1 => ∃ A1 ρ1, Lt C A H A1 H1 ∧ RS X.K cm C A1 [] σ1 H1 ρ1 ∧ whileF f g m ρ1 = some o, ⟨N, A, ρ, .refl A H, R, q⟩, fun m σ1 H1 ⟨A1, ρ1, l1, R1, q1⟩ => ?_⟩
    cases m with
    | zero => cases q1
    | succ m =>
      simp only [whileF, Option.bind_eq_some_iff] at q1
      obtain ⟨⟨x, ρ2⟩, h1, h2⟩ := q1
      refine ⟨C, A1, ρ1, x, ρ2, R1, h1, fun H2 A2 l2 R2 => ?_⟩
      cases x with
      | false =>
        cases h2
        exact iteF (k σ1 H2 A2 (l1.trans l2) R2)
      | true =>
        rw [if_pos rfl, Option.bind_eq_some_iff] at h2
        obtain ⟨o2, h3, h4⟩ := h2
        refine iteT ⟨fun σ3 H3 => ∃ A3 ρ3, Lt C A H A3 H3 ∧ RS X.K cm C A3 [] σ3 H3 ρ3 ∧ whileF f g m ρ3 = some o, fun σ3 H3 h => ⟨m, Nat.lt_succ_self m, h⟩, C, A2, ρ2, o2, R2, h3, ?_⟩
        have l12 := l1.trans l2
        cases o2 with
        | nx ρ3 => exact fun σ3 H3 A3 l3 R3 => ⟨A3, ρ3, l12.trans l3, R3, h4⟩
        | ct ρ3 => exact fun σ3 H3 A3 l3 R3 => ⟨A3, ρ3, l12.trans l3, R3, h4⟩
        | bk ρ3 => cases h4; exact fun σ3 H3 A3 l3 R3 => k σ3 H3 A3 (l12.trans l3) R3
        | rt t ρ3 => cases h4; exact fun v σ3 H3 A3 F l3 R3 => k v σ3 H3 A3 F (l12.trans l3) R3
def forF (h : D → Rho → Option Rho) (b : Sm) : List D → Sm
  | [] => fun ρ => some (.nx ρ)
  | d :: ds => fun ρ => (h d ρ).bind fun ρ1 => (b ρ1).bind fun o => match o with
      | .nx ρ2 => forF h b ds ρ2
      | .ct ρ2 => forF h b ds ρ2
      | .bk ρ2 => some (.nx ρ2)
      | .rt t ρ2 => some (.rt t ρ2)
def sFor (f : Im) (h : D → Rho → Option Rho) (b : Sm) : Sm := fun ρ => (f ρ).bind fun p => forF h b p.1 p.2
theorem drop_cons_of {ds : List D} {i : Nat} (hi : i < ds.length) : ds.drop i = ds[i] :: ds.drop (i + 1) := List.drop_eq_getElem_cons hi
theorem tFor_core {K : PySem.W.Frag} {wi : TI} {is : List Nat} {ds : List D} {h : D → Rho → Option Rho} {g : Sm} {σ : L2.St} {H : Hp} {D0 : Ends} {C : Fc} {A : AS} {ρ1 : Rho} {o : Out}
    (hw : ∀ R' : It → Hp → Prop, (∀ J H1 A1 W, Lt C A H A1 H1 → RS K cm C A1 [] σ H1 ρ1 → ItOk K cm J W ds → W A1 H1 → R' J H1) → wi σ H R') (h2 : forF h g ds ρ1 = some o) (k : Kont K cm C A H D0 o) : tFor wi (tG K cm is h) (tS K cm g) D0 σ H := by
    refine hw _ fun J H1 A1 W l1 R1 hJ w1 => ?_
    refine ⟨fun i m σ2 H2 => m = ds.length - i ∧ i ≤ ds.length ∧ ∃ A2 ρ2, Lt C A H A2 H2 ∧ RS K cm C A2 [] σ2 H2 ρ2 ∧ W A2 H2 ∧ forF h g (ds.drop i) ρ2 = some o, ⟨ds.length, by simp, Nat.zero_le _, A1, ρ1, l1, R1, w1, h2⟩, ?_⟩
    rintro i m σ2 H2 ⟨rfl, hi, A2, ρ2, l2, R2, w2, q2⟩
    by_cases hlt : i < ds.length
    · rw [drop_cons_of hlt] at q2
      simp only [forF, Option.bind_eq_some_iff] at q2
      obtain ⟨ρ3, q3, o3, q4, q5⟩ := q2
      refine .inr ⟨hJ.go A2 H2 i w2 hlt, fun σ3 H3 => ∃ A3 ρ3, Lt C A H A3 H3 ∧ RS K cm C A3 [] σ3 H3 ρ3 ∧ W A3 H3 ∧ forF h g (ds.drop (i + 1)) ρ3 = some o, fun σ3 H3 h => ⟨ds.length - (i + 1), by omega, rfl, hlt, h⟩, fun x H3 hy => ?_⟩
      obtain ⟨g3, r3⟩ := hJ.yld A2 H2 i x H3 ds[i] w2 R2.dom (List.getElem?_eq_getElem hlt) hy
      have R3 := R2.grow g3
      have l3 : Lt C A2 H2 A2 H3 := .same g3
      refine ⟨C, A2, ρ2, ds[i], ρ3, R3, r3, q3, fun σ4 H4 A4 l4 R4 _ _ => ⟨C, A4, ρ3, o3, R4, q4, ?_⟩⟩
      have l23 := (l2.trans l3).trans l4
      have w3 := hJ.stay _ _ _ _ w2 (l3.trans l4).l
      cases o3 with
      | nx ρ4 => exact fun σ5 H5 A5 l5 R5 => ⟨A5, ρ4, l23.trans l5, R5, hJ.stay _ _ _ _ w3 l5.l, q5⟩
      | ct ρ4 => exact fun σ5 H5 A5 l5 R5 => ⟨A5, ρ4, l23.trans l5, R5, hJ.stay _ _ _ _ w3 l5.l, q5⟩
      | bk ρ4 => cases q5; exact fun σ5 H5 A5 l5 R5 => k σ5 H5 A5 (l23.trans l5) R5
      | rt t ρ4 => cases q5; exact fun v σ5 H5 A5 F l5 R5 => k v σ5 H5 A5 F (l23.trans l5) R5
    · refine .inl ⟨hJ.stop A2 H2 i w2 (by omega), ?_⟩
      rw [List.drop_of_length_le (by omega)] at q2
      cases q2
      exact k σ2 H2 A2 l2 R2
theorem fs_for {f : Im} {is : List Nat} {h : D → Rho → Option Rho} {g : Sm} {body : List Stmt} (hp : PassesOwn (model X.prog X.w) X.A X.env X.xe) (hc : X.calm = true) (hi : FI X cm tg iter f) (hg : FG X cm tg is h) (hb : FSs X cm body g)
    (hs : ∀ x, foldedSetIterable iter X.env x = pure x := by intro _; rfl) : FS X cm (.For tg iter body [] pos) (sFor f h g) :=
  (ps_for hp hc hi hg hb hs).imp fun D σ H ⟨C, A, ρ, o, R, q, k⟩ => by
    unfold sFor at q
    rw [Option.bind_eq_some_iff] at q
    obtain ⟨⟨ds, ρ1⟩, h1, h2⟩ := q
    exact tFor_core (fun R' hR => ⟨C, A, ρ, ds, ρ1, R, h1, hR⟩) h2 k
/-! what is walked -/
def rgOk (j : Int) : Bool := Nat.blt j.natAbs (2 ^ 61)
def rgD (lo : Int) (n : Nat) : List D := (List.range n).map fun i => .int (lo + (i : Nat))
def iRng1 (g : Am) : Im := fun ρ => (g ρ).bind fun p => (pus p.2 p.1).bind fun ds => match ds with
  | [.int j] => if rgOk j then some (rgD 0 j.toNat, p.2) else none
  | _ => none
def iRng2 (g : Am) : Im := fun ρ => (g ρ).bind fun p => (pus p.2 p.1).bind fun ds => match ds with
  | [.int i, .int j] => if rgOk i && rgOk j then some (rgD i (j - i).toNat, p.2) else none
  | _ => none
theorem it_rng {K : PySem.W.Frag} {lo : Int} {n : Nat} : ItOk K cm (Itr lo n) (fun _ _ => True) (rgD lo n) where
  stay := fun _ _ _ _ _ _ => trivial
  go := fun _ _ i _ h' => by
    show i < n
    simpa [rgD] using h'
  yld := fun A H i x H' d _ _ e hy => by
    obtain ⟨rfl, rfl⟩ := hy
    unfold rgD at e
    simp only [List.getElem?_map, Option.map_eq_some_iff] at e
    obtain ⟨j, e1, rfl⟩ := e
    have hj : i < n := by
      have := (List.getElem?_eq_some_iff.mp e1).1
      simpa using this
    rw [List.getElem?_range hj] at e1
    cases e1; exact ⟨.refl _, .int _⟩
  stop := fun _ _ i _ h' => by
    show n ≤ i
    simpa [rgD] using h'
theorem rgOk_ok {j : Int} (h : rgOk j = true) : -(2 ^ 62) ≤ j ∧ j < 2 ^ 62 := by
  unfold rgOk at h
  have h := Nat.ble_eq.mp (show Nat.ble (j.natAbs + 1) (2 ^ 61) = true from h)
  omega
theorem fi_rng1 {g : Am} {p : Pos} (hg : Gl X "range") (hm : X.mg "range" = none) (ha : FA X cm [a] g) (hs : starEach [a] X.env = [(false, eval a X.env)] := by rfl) : FI X cm tg (.Call (.Name "range" p) [a] [] pos) (iRng1 g) :=
  (pi_range1 hg hm ha hs).imp fun σ H R ⟨C, A, ρ, ds, ρ', RS0, q, k⟩ => by
    unfold iRng1 at q
    simp only [Option.bind_eq_some_iff] at q
    obtain ⟨⟨rs, ρ1⟩, h1, es, h2, h3⟩ := q
    refine ⟨C, A, ρ, rs, ρ1, RS0, h1, fun vs H1 A1 l1 R1 w1 => ?_⟩
    have r := pus_ok R1 w1 h2
    dsimp only at h3
    split at h3
    · split at h3
      · rename_i hz
        cases h3
        cases r with
        | cons r1 r => cases r with
          | nil =>
            cases r1
            exact ⟨_, rfl, (rgOk_ok hz).1, (rgOk_ok hz).2, k _ H1 A1 _ l1 R1 it_rng trivial⟩
      · cases h3
    · cases h3
theorem fi_rng2 {g : Am} {p : Pos} (hg : Gl X "range") (hm : X.mg "range" = none) (ha : FA X cm [a, b] g) (hs : starEach [a, b] X.env = [(false, eval a X.env), (false, eval b X.env)] := by rfl) (hs2 : starEach [b] X.env = [(false, eval b X.env)] := by rfl) :
    FI X cm tg (.Call (.Name "range" p) [a, b] [] pos) (iRng2 g) :=
  (pi_range2 hg hm ha hs hs2).imp fun σ H R ⟨C, A, ρ, ds, ρ', RS0, q, k⟩ => by
    unfold iRng2 at q
    simp only [Option.bind_eq_some_iff] at q
    obtain ⟨⟨rs, ρ1⟩, h1, es, h2, h3⟩ := q
    refine ⟨C, A, ρ, rs, ρ1, RS0, h1, fun vs H1 A1 l1 R1 w1 => ?_⟩
    have r := pus_ok R1 w1 h2
    dsimp only at h3
    split at h3
    · split at h3
      · rename_i hz
        rw [Bool.and_eq_true] at hz
        cases h3
        cases r with
        | cons r1 r => cases r with
          | cons r2 r => cases r with
            | nil =>
              cases r1; cases r2
              exact ⟨_, _, rfl, ⟨(rgOk_ok hz.1).1, (rgOk_ok hz.1).2, (rgOk_ok hz.2).1, (rgOk_ok hz.2).2⟩, k _ H1 A1 _ l1 R1 it_rng trivial⟩
      · cases h3
    · cases h3
/-- a list, a tuple, a text -/
def seqD : D → Option (List D)
  | .lst ds => some ds
  | .tup ds => some ds
  | .str s => some (s.map fun c => .str [c])
  | _ => none
def iSeq (f : Em) : Im := fun ρ => (f ρ).bind fun p => (pu p.2 p.1).bind fun d => (seqD d).map fun ds => (ds, p.2)
theorem it_lst {K : PySem.W.Frag} {a : Addr} {ds : List D} : ItOk K cm (Itl K a) (fun A H => ∃ xs, SL K A H a xs ∧ RpL K cm A H xs ds) ds where
  stay := fun _ _ _ _ ⟨xs, s, r⟩ l => ⟨xs, s.later l, r.later l⟩
  go := fun A H i ⟨xs, s, r⟩ h => by
    have h' : i < xs.length := by rw [r.length]; exact h
    exact ⟨xs, xs[i], s.sq, List.getElem?_eq_getElem h'⟩
  yld := fun A H i x H' d ⟨xs, s, r⟩ _ e hy => by
    obtain ⟨rfl, hx⟩ := hy
    obtain ⟨v, h1, h2⟩ := r.get e
    have := hx xs s.sq
    rw [h1] at this; cases this
    exact ⟨.refl _, h2⟩
  stop := fun A H i ⟨xs, s, r⟩ h => ⟨xs, s.sq, by rw [r.length]; exact h⟩
theorem it_tup {K : PySem.W.Frag} {a : Addr} {ds : List D} : ItOk K cm (Itt K a) (fun A H => ∃ xs, ST K A H a xs ∧ RpL K cm A H xs ds) ds where
  stay := fun _ _ _ _ ⟨xs, s, r⟩ l => ⟨xs, s.later l, r.later l⟩
  go := fun A H i ⟨xs, s, r⟩ h => by
    have h' : i < xs.length := by rw [r.length]; exact h
    exact ⟨xs, xs[i], s.sq, List.getElem?_eq_getElem h'⟩
  yld := fun A H i x H' d ⟨xs, s, r⟩ _ e hy => by
    obtain ⟨rfl, hx⟩ := hy
    obtain ⟨v, h1, h2⟩ := r.get e
    have := hx xs s.sq
    rw [h1] at this; cases this
    exact ⟨.refl _, h2⟩
  stop := fun A H i ⟨xs, s, r⟩ h => ⟨xs, s.sq, by rw [r.length]; exact h⟩
theorem it_str {K : PySem.W.Frag} {s : List Nat} : ItOk K cm (Its (S s)) (fun _ _ => True) (s.map fun c => .str [c]) where
  stay := fun _ _ _ _ _ _ => trivial
  go := fun A H i _ h => by
    show i < (S s).cps.size
    simpa [S] using h
  yld := fun A H i x H' d _ _ e hy => by
    obtain ⟨rfl, c, hc, rfl⟩ := hy
    simp only [List.getElem?_map, Option.map_eq_some_iff] at e
    obtain ⟨c', e1, rfl⟩ := e
    have : c = c' := by
      have h2 : (S s).cps[i]? = s[i]? := by simp [S]
      rw [h2, e1] at hc; cases hc; rfl
    subst this
    refine ⟨.refl _, ?_⟩
    exact .str [c]
  stop := fun A H i _ h => by
    show (S s).cps.size ≤ i
    simpa [S] using h
theorem fi_seq {f : Em} (h : FE X cm e f) : FI X cm tg e (iSeq f) := ((pi_list h).or ((pi_tup h).or (pi_str h))).imp fun σ H R ⟨C, A, ρ, ds, ρ', RS0, q, k⟩ => by
  unfold iSeq at q
  simp only [Option.bind_eq_some_iff, Option.map_eq_some_iff] at q
  obtain ⟨⟨r, ρ1⟩, h1, d, h2, ds', h3, h4⟩ := q
  cases h4
  cases d <;> (try cases h3)
  · -- a text
    refine .inr (.inr ⟨C, A, ρ, r, ρ1, RS0, h1, fun v H1 A1 l1 R1 w1 => ?_⟩)
    have rp := pu_ok R1 w1 h2
    cases rp
    exact ⟨_, rfl, k _ H1 A1 _ l1 R1 it_str trivial⟩
  · refine .inr (.inl ⟨C, A, ρ, r, ρ1, RS0, h1, fun v H1 A1 l1 R1 w1 => ?_⟩)
    have rp := pu_ok R1 w1 h2
    cases rp with
    | tup s rr => exact ⟨_, rfl, ⟨_, s.sq⟩, k _ H1 A1 _ l1 R1 it_tup ⟨_, s, rr⟩⟩
  · refine .inl ⟨C, A, ρ, r, ρ1, RS0, h1, fun v H1 A1 l1 R1 w1 => ?_⟩
    have rp := pu_ok R1 w1 h2
    cases rp with
    | lst s rr => exact ⟨_, rfl, ⟨_, s.sq⟩, k _ H1 A1 _ l1 R1 it_lst ⟨_, s, rr⟩⟩
end
end G

/-! Ly7: list comprehensions. -/
namespace G
open PySem PySem.Spec L2

theorem wipe_get (σ : L2.St) (j : Nat) : ∀ vs : List Nat, (wipe σ vs)[j]? = if j ∈ vs ∧ j < σ.length then some none else σ[j]?
  | [] => by simp [wipe]
  | v :: vs => by
    have ih := wipe_get σ j vs
    unfold wipe
    by_cases hj : v = j
    · subst hj
      by_cases hl : v < σ.length
      · rw [List.getElem?_set_self (by rw [wipe_length]; exact hl), if_pos ⟨by simp, hl⟩]
      · rw [List.getElem?_eq_none (by rw [List.length_set, wipe_length]; omega), if_neg (fun z => hl z.2), List.getElem?_eq_none (by omega)]
    · rw [List.getElem?_set_ne hj, ih]
      have : (j ∈ v :: vs) ↔ j ∈ vs := by simp [Ne.symm hj]
      simp only [this]
theorem wipe_same {σ σ' : L2.St} {vs : List Nat} (hl : σ'.length = σ.length) (h : ∀ j, j ∉ vs → σ'[j]? = σ[j]?) : wipe σ' vs = wipe σ vs := by
  refine List.ext_getElem? fun j => ?_
  rw [wipe_get, wipe_get, hl]
  by_cases hj : j ∈ vs
  · by_cases hk : j < σ.length
    · rw [if_pos ⟨hj, hk⟩, if_pos ⟨hj, hk⟩]
    · rw [if_neg (fun z => hk z.2), if_neg (fun z => hk z.2), List.getElem?_eq_none (by omega), List.getElem?_eq_none (by omega)]
  · rw [if_neg (fun z => hj z.1), if_neg (fun z => hj z.1), h j hj]
theorem wipe_wipe (σ : L2.St) (vs : List Nat) : wipe (wipe σ vs) vs = wipe σ vs := wipe_same (wipe_length σ vs) fun j hj => by rw [wipe_get, if_neg (fun z => hj z.1)]
/-- the slots of a block's own names emptied; they must hold nothing of one's own -/
def wipeS : List Nat → Rho → Option Rho
  | [], ρ => some ρ
  | i :: is, ρ => (wipeS is ρ).bind fun ρ' => match ρ'[i]? with
    | some .no => some (ρ'.set i .no)
    | some (.v (.p _)) => some (ρ'.set i .no)
    | _ => none
def back (ρ1 ρ2 : Rho) : List Nat → Rho
  | [] => ρ2
  | i :: is => match ρ1[i]? with
    | some s => (back ρ1 ρ2 is).set i s
    | none => back ρ1 ρ2 is
theorem back_length (ρ1 ρ2 : Rho) : ∀ is : List Nat, (back ρ1 ρ2 is).length = ρ2.length
  | [] => rfl
  | i :: is => by
    unfold back
    split
    · rw [List.length_set, back_length ρ1 ρ2 is]
    · exact back_length ρ1 ρ2 is
theorem back_get {ρ1 ρ2 : Rho} (hl : ρ1.length = ρ2.length) (j : Nat) : ∀ is : List Nat, (back ρ1 ρ2 is)[j]? = if j ∈ is then ρ1[j]? else ρ2[j]?
  | [] => by simp [back]
  | i :: is => by
    have ih := back_get hl j is
    unfold back
    split
    · rename_i s e
      by_cases hj : i = j
      · subst hj
        have hi : i < ρ1.length := (List.getElem?_eq_some_iff.mp e).1
        rw [List.getElem?_set_self (by rw [back_length]; omega), if_pos (by simp), e]
      · rw [List.getElem?_set_ne hj, ih]
        have : (j ∈ i :: is) ↔ j ∈ is := by simp [Ne.symm hj]
        simp only [this]
    · rename_i e
      rw [ih]
      by_cases hj : i = j
      · subst hj
        rw [if_pos (show i ∈ i :: is by simp), e]
        split
        · rfl
        · rw [List.getElem?_eq_none]
          have := List.getElem?_eq_none_iff.mp e
          omega
      · have : (j ∈ i :: is) ↔ j ∈ is := by simp [Ne.symm hj]
        simp only [this]
section
variable {K : PySem.W.Frag} {cm : Cm} {A A' : AS} {H H' : Hp} {C : Fc} {σ : L2.St} {ρ ρ' : Rho} {Y : List Addr}
theorem RS.clear {i : Nat} (R : RS K cm C A Y σ H ρ) (h : ρ[i]? = some .no ∨ ∃ d, ρ[i]? = some (.v (.p d))) : RS K cm C A Y (σ.set i none) H (ρ.set i .no) := by
  obtain ⟨F, h1, h2, h3, h4, h5⟩ := R.sl
  have hil : i < ρ.length := by
    rcases h with h | ⟨d, h⟩ <;> exact (List.getElem?_eq_some_iff.mp h).1
  have hF : F i = [] := by
    rcases h with h | ⟨d, h⟩
    · obtain ⟨o, _, r⟩ := h5 i _ h; exact r
    · obtain ⟨o, _, v, _, r, _⟩ := h5 i _ h; exact r.1
  refine ⟨by rw [List.length_set, List.length_set]; exact R.len, ⟨F, h1, h2, h3, fun j e => ?_, fun j s e => ?_⟩, R.out, R.sub, R.dom, R.fr, R.fd, R.tb, R.ne⟩
  · by_cases hj : j = i
    · rw [hj]; exact hF
    · rw [List.getElem?_set_ne (Ne.symm hj)] at e
      exact h4 j e
  · by_cases hj : j = i
    · subst hj
      rw [List.getElem?_set_self hil] at e; cases e
      exact ⟨none, by rw [List.getElem?_set_self (by rw [R.len]; exact hil)], hF⟩
    · rw [List.getElem?_set_ne (Ne.symm hj)] at e
      obtain ⟨o, e1, r⟩ := h5 j s e
      exact ⟨o, by rw [List.getElem?_set_ne (Ne.symm hj)]; exact e1, r⟩
theorem RS.wipe (R : RS K cm C A Y σ H ρ) : ∀ {is : List Nat} {ρ' : Rho}, wipeS is ρ = some ρ' → RS K cm C A Y (L2.wipe σ is) H ρ'
  | [], ρ', h => by cases h; exact R
  | i :: is, ρ', h => by
    simp only [wipeS, Option.bind_eq_some_iff] at h
    obtain ⟨ρ1, h1, h2⟩ := h
    have R1 := R.wipe h1
    split at h2
    · rename_i e; cases h2; exact R1.clear (.inl e)
    · rename_i e; cases h2; exact R1.clear (.inr ⟨_, e⟩)
    · cases h2
theorem wipeS_len : ∀ {is : List Nat} {ρ ρ' : Rho}, wipeS is ρ = some ρ' → ρ'.length = ρ.length
  | [], _, _, h => by cases h; rfl
  | i :: is, ρ, ρ', h => by
    simp only [wipeS, Option.bind_eq_some_iff] at h
    obtain ⟨ρ1, h1, h2⟩ := h
    have := wipeS_len h1
    split at h2
    · cases h2; rw [List.length_set, this]
    · cases h2; rw [List.length_set, this]
    · cases h2
theorem wipeS_pure : ∀ {is : List Nat} {ρ ρ' : Rho}, wipeS is ρ = some ρ' → ∀ j ∈ is, ρ[j]? = some .no ∨ ∃ d, ρ[j]? = some (.v (.p d))
  | [], _, _, _, j, m => nomatch m
  | i :: is, ρ, ρ', h, j, m => by
    simp only [wipeS, Option.bind_eq_some_iff] at h
    obtain ⟨ρ1, h1, h2⟩ := h
    by_cases hj : j ∈ is
    · exact wipeS_pure h1 j hj
    · obtain rfl : j = i := by
        rcases List.mem_cons.mp m with h | h
        · exact h
        · exact absurd h hj
      have e : ∀ {is : List Nat} {ρ ρ1 : Rho}, j ∉ is → wipeS is ρ = some ρ1 → ρ1[j]? = ρ[j]? := by
        intro is
        induction is with
        | nil => intro ρ ρ1 _ h; cases h; rfl
        | cons i is ih =>
          intro ρ ρ1 hn h
          simp only [wipeS, Option.bind_eq_some_iff] at h
          obtain ⟨ρ2, h1, h2⟩ := h
          simp only [List.mem_cons, not_or] at hn
          have := ih hn.2 h1
          split at h2
          · cases h2; rw [List.getElem?_set_ne (Ne.symm hn.1), this]
          · cases h2; rw [List.getElem?_set_ne (Ne.symm hn.1), this]
          · cases h2
      rw [← e hj h1]
      split at h2
      · rename_i q; exact .inl q
      · rename_i q; exact .inr ⟨_, q⟩
      · cases h2
/-- behind a block: the own names' slots as they were -/
theorem RS.back {ρ1 ρw ρ2 : Rho} {is : List Nat} {A1 : AS} {H1 : Hp} (R1 : RS K cm C A1 [] σ H1 ρ1) (hw : wipeS is ρ1 = some ρw) (l : Lt C A1 H1 A H) (R2 : RS K cm C A Y (L2.wipe σ is) H ρ2) : RS K cm C A Y σ H (back ρ1 ρ2 is) := by
  obtain ⟨F, h1, h2, h3, h4, h5⟩ := R2.sl
  obtain ⟨F1, _, _, _, g4, g5⟩ := R1.sl
  have hlen : ρ1.length = ρ2.length := by
    have a := R1.len
    have b := R2.len
    rw [wipe_length] at b
    omega
  have hlen1 := R1.len
  refine ⟨by rw [back_length]; omega, ⟨fun j => if j ∈ is then [] else F j, fun j => ?_, fun j k a m m' => ?_, fun j a m => ?_, fun j e => ?_, fun j s e => ?_⟩, R2.out, R2.sub, R2.dom, R2.fr, R2.fd, R2.tb, R2.ne⟩
  · dsimp only; split
    · exact .nil
    · exact h1 j
  · dsimp only at m m'
    split at m <;> split at m' <;> first | cases m | cases m' | exact h2 j k a m m'
  · dsimp only at m
    split at m
    · cases m
    · exact h3 j a m
  · dsimp only
    split
    · rfl
    · rename_i hj
      rw [back_get hlen, if_neg hj] at e
      exact h4 j e
  · dsimp only
    rw [back_get hlen] at e
    by_cases hj : j ∈ is
    · rw [if_pos hj] at e ⊢
      rcases wipeS_pure hw j hj with q | ⟨d, q⟩
      · rw [q] at e; cases e
        obtain ⟨o, e1, _⟩ := g5 j _ q
        exact ⟨o, e1, rfl⟩
      · rw [q] at e; cases e
        obtain ⟨o, e1, v, e2, r, _⟩ := g5 j _ q
        exact ⟨o, e1, v, e2, ⟨rfl, r.2.later l.l⟩, fun a m => nomatch m⟩
    · rw [if_neg hj] at e ⊢
      obtain ⟨o, e1, r⟩ := h5 j s e
      rw [wipe_get, if_neg (fun z => hj z.1)] at e1
      exact ⟨o, e1, r⟩
/-- a new list that grows is put with what the callers own -/
def Fc.plus (C : Fc) (p : Addr) : Fc := { C with A0 := fun a => C.A0 a ∨ a = p }
theorem RS.plus {p : Addr} (R : RS K cm C A [p] σ H ρ) (hp : A p) : RS K cm (C.plus p) A [] σ H ρ := by
  obtain ⟨F, h1, h2, h3, h4, h5⟩ := R.sl
  refine ⟨R.len, ⟨F, h1, h2, fun i a m => ⟨(h3 i a m).1, fun z => z.elim (h3 i a m).2.1 fun z => (h3 i a m).2.2 (by simp [z]), fun z => nomatch z⟩, h4, fun i s e => h5 i s e⟩, fun a z => z.elim (R.out a) fun z => by rw [z]; exact hp, fun a z => (R.sub a z).imp_left .inl, R.dom, R.fr, R.fd, R.tb, R.ne⟩
theorem RS.minus {p : Addr} (R : RS K cm (C.plus p) A [] σ H ρ) (h0 : C.H0 p = none) : RS K cm C A [p] σ H ρ := by
  obtain ⟨F, h1, h2, h3, h4, h5⟩ := R.sl
  refine ⟨R.len, ⟨F, h1, h2, fun i a m => ⟨(h3 i a m).1, fun z => (h3 i a m).2.1 (.inl z), fun z => (h3 i a m).2.1 (.inr (by simpa using z))⟩, h4, fun i s e => h5 i s e⟩, fun a z => R.out a (.inl z), fun a z => ?_, R.dom, R.fr, R.fd, R.tb, R.ne⟩
  rcases R.sub a z with (q | q) | q
  · exact .inl q
  · rw [q]; exact .inr (.inr h0)
  · exact .inr q
theorem RS.updOut {p : Addr} {o : HO} (R : RS K cm C A Y σ H ρ) (hA : A p) (h : C.A0 p) (h0 : C.H0 p = none) {u0 : HO} (hu : H p = some u0) (hpl : Pl u0) (ho : ∀ φ, o ≠ .ext φ := by intro _ z; cases z) : Later A H A (upd H p o) ∧ RS K cm C A Y σ (upd H p o) ρ := by
  have ne : ∀ a, ¬ A a → a ≠ p := fun a n z => n (by rw [z]; exact hA)
  have some' : ∀ a, H a ≠ none → upd H p o a ≠ none := fun a q => by
    by_cases e : a = p
    · rw [e, upd_same]; exact fun z => nomatch z
    · rw [upd_ne e]; exact q
  have l : Later A H A (upd H p o) := ⟨fun a u e _ n => by rw [upd_ne (ne a n)]; exact e, fun a z => .inl z, some'⟩
  refine ⟨l, ?_⟩
  obtain ⟨F, h1, h2, h3, h4, h5⟩ := R.sl
  refine ⟨R.len, ⟨F, h1, h2, h3, h4, fun i s e => ?_⟩, R.out, R.sub, fun a z => some' a (R.dom a z), fun a u e t n => ?_, fun a z => some' a (R.fd a z), tabs_upd R.tb hu hpl, fun a z φ e => by
    by_cases w : a = p
    · rw [w, upd_same] at e; exact ho φ (Option.some.inj e)
    · rw [upd_ne w] at e; exact R.ne a z φ e⟩
  · obtain ⟨u, e1, r⟩ := h5 i s e
    exact ⟨u, e1, r.keep l fun a m u q _ => by rw [upd_ne (fun z => (h3 i a m).2.1 (by rw [z]; exact h))]; exact q⟩
  · rw [upd_ne (fun z => by rw [z, h0] at e; cases e)]
    exact R.fr a u e t n
theorem Lt.of_plus {p : Addr} (l : Lt (C.plus p) A H A' H') : Lt C A H A' H' := ⟨l.l, fun a o z e t => l.o a o (.inl z) e t⟩
end
/-- a comprehension's turns, the own names' slots being empty ahead of each -/
def lcF (own : List Nat) (h : D → Rho → Option Rho) (ifs : Bm) (elt : Em) : List D → Rho → Option (List D × Rho)
  | [], ρ => some ([], ρ)
  | d :: ds, ρ => (h d ρ).bind fun ρ1 => (ifs ρ1).bind fun p => if p.1 then (elt p.2).bind fun q => (pu q.2 q.1).bind fun y => (wipeS own q.2).bind fun ρ3 => (lcF own h ifs elt ds ρ3).map fun r => (y :: r.1, r.2)
      else (wipeS own p.2).bind fun ρ3 => lcF own h ifs elt ds ρ3
def nLc (own : List Nat) (f : Im) (h : D → Rho → Option Rho) (ifs : Bm) (elt : Em) : Rho → Option (T × Rho) := fun ρ => (f ρ).bind fun p => if p.1.length ≤ big then (wipeS own p.2).bind fun ρw => (lcF own h ifs elt p.1 ρw).map fun r => (.ls r.1, back p.2 r.2 own) else none
def bYes : Bm := fun ρ => some (true, ρ)
section
variable {X : Cx} {cm : Cm} {pos : Pos} {elt tg iter e c : Expr} {ifs : List Expr}
abbrev FTs (X : Cx) (cm : Cm) (ifs : List Expr) (f : Bm) : Prop := PTs X ifs (tT X.K cm f)
theorem _root_.L2.PTs.imp {t t' : TT} (h : PTs X ifs t) (i : ∀ σ H Q, t' σ H Q → t σ H Q) : PTs X ifs t' := ⟨fun pins s σ H Q I q => h.run pins s σ H Q I (i σ H Q q)⟩
theorem fts_nil : FTs X cm [] bYes := pts_nil.imp fun σ H Q ⟨C, A, ρ, b, ρ', R, q, k⟩ => by
  cases q
  exact k H A (.refl A H) R
theorem fts_one {f : Bm} (h : FB X cm c f) : FTs X cm [c] f := pts_one h
theorem tLc_core {K : PySem.W.Frag} {wi : TI} {own is : List Nat} {ds all : List D} {h : D → Rho → Option Rho} {g : Bm} {el : Em} {σ : L2.St} {H : Hp} {Q : VK} {C : Fc} {A : AS} {ρ1 ρw ρ2 : Rho} (hsub : ∀ i ∈ is, i ∈ own)
    (hw : ∀ R' : It → Hp → Prop, (∀ J H1 A1 W, Lt C A H A1 H1 → RS K cm C A1 [] σ H1 ρ1 → ItOk K cm J W ds → W A1 H1 → R' J H1) → wi σ H R') (hbig : ds.length ≤ big) (h2 : wipeS own ρ1 = some ρw) (h3 : lcF own h g el ds ρw = some (all, ρ2))
    (k : ∀ v H' A' F, Lt C A H A' H' → RS K cm C A' F σ H' (back ρ1 ρ2 own) → RT K cm A' H' v (.ls all) F → F.Nodup → (∀ a ∈ F, C.H0 a = none ∧ A' a ∧ ¬ C.A0 a) → Q v H') : tLc wi (tG K cm is h) (tT K cm g) (tE K cm el) own σ H Q := by
  refine hw _ fun J H1 A1 W l1 R1 hJ w1 D hD => ?_
  obtain ⟨lD, RD, hF⟩ := own1 (o := .lst []) R1 hD
  have hA0 : ¬ C.A0 D := (hF D (by simp)).2.2
  have hH0 : C.H0 D = none := (hF D (by simp)).1
  have RW := (RD.plus (.inr rfl)).wipe h2
  refine ⟨fun i m Hc => m = ds.length - i ∧ i ≤ ds.length ∧ ∃ Ac ρc acc dacc ys, Lt C A1 H1 Ac Hc ∧ RS K cm (C.plus D) Ac [] (wipe σ own) Hc ρc ∧ W Ac Hc ∧ Hc D = some (.lst acc) ∧ RpL K cm Ac Hc acc dacc ∧ Ac D ∧ acc.length ≤ i ∧ lcF own h g el (ds.drop i) ρc = some (ys, ρ2) ∧ dacc ++ ys = all,
    ⟨ds.length, by simp, Nat.zero_le _, _, ρw, [], [], all, lD, RW, hJ.stay _ _ _ _ w1 lD.l, upd_same, .nil, .inr rfl, Nat.zero_le _, h3, rfl⟩, ?_⟩
  rintro i m Hc ⟨rfl, hi, Ac, ρc, acc, dacc, ys, lc, Rc, wc, hc, rc, hAc, hacc, qc, hall⟩
  by_cases hlt : i < ds.length
  · rw [drop_cons_of hlt] at qc
    simp only [lcF, Option.bind_eq_some_iff] at qc
    obtain ⟨ρ3, q3, ⟨b, ρ4⟩, q4, q5⟩ := qc
    refine .inr ⟨hJ.go Ac Hc i wc hlt, fun H' => i + 1 ≤ ds.length ∧ ∃ Ac ρc acc dacc ys, Lt C A1 H1 Ac H' ∧ RS K cm (C.plus D) Ac [] (wipe σ own) H' ρc ∧ W Ac H' ∧ H' D = some (.lst acc) ∧ RpL K cm Ac H' acc dacc ∧ Ac D ∧ acc.length ≤ i + 1 ∧ lcF own h g el (ds.drop (i + 1)) ρc = some (ys, ρ2) ∧ dacc ++ ys = all,
      fun H' h' => ⟨ds.length - (i + 1), by omega, rfl, h'⟩, fun x H3 hy => ?_⟩
    obtain ⟨g3, r3⟩ := hJ.yld Ac Hc i x H3 ds[i] wc Rc.dom (List.getElem?_eq_getElem hlt) hy
    have R3 := Rc.grow g3
    have l3 : Lt (C.plus D) Ac Hc Ac H3 := .same g3
    refine ⟨C.plus D, Ac, ρc, ds[i], ρ3, R3, r3, q3, fun σ2 H4 A4 l4 R4 el2 fe2 => ⟨?_, C.plus D, A4, ρ3, b, ρ4, R4, q4, fun H5 A5 l5 R5 => ?_⟩⟩
    · rw [← wipe_wipe σ own]
      exact wipe_same el2 fun j hj => fe2 j fun z => hj (hsub j z)
    have hw2 : wipe σ2 own = wipe σ own := by
      rw [← wipe_wipe σ own]
      exact wipe_same el2 fun j hj => fe2 j fun z => hj (hsub j z)
    cases b with
    | false =>
      simp only [Bool.false_eq_true, if_false, Option.bind_eq_some_iff] at q5
      obtain ⟨ρ5, q6, q7⟩ := q5
      have R6 := R5.wipe q6
      rw [hw2] at R6
      have l35 := (l3.trans l4).trans l5
      exact iteF ⟨hlt, A5, ρ5, acc, dacc, ys, lc.trans l35.of_plus, R6, hJ.stay _ _ _ _ wc l35.l, l35.o D _ (.inr rfl) hc pl_lst.1, rc.later l35.l, R5.out D (.inr rfl), by omega, q7, hall⟩
    | true =>
      simp only [if_true, Option.bind_eq_some_iff, Option.map_eq_some_iff] at q5
      obtain ⟨⟨r, ρ5⟩, q6, y, q7, ρ6, q8, ⟨ys', ρ7⟩, q9, q10⟩ := q5
      cases q10
      refine iteT ⟨C.plus D, A5, ρ4, r, ρ5, R5, q6, fun v H6 A6 l6 R6 w6 => ?_⟩
      have l36 := ((l3.trans l4).trans l5).trans l6
      have hD6 := l36.o D _ (.inr rfl) hc pl_lst.1
      have ry := pu_ok R6 w6 q7
      have hA6 := R6.out D (.inr rfl)
      obtain ⟨lu, Ru⟩ := R6.updOut (o := .lst (acc ++ [v])) hA6 (.inr rfl) hH0 hD6 pl_lst
      have Ruw := Ru.wipe q8
      rw [hw2] at Ruw
      have lt : Lt C A1 H1 A6 (upd H6 D (.lst (acc ++ [v]))) := (lc.trans l36.of_plus).trans ⟨lu, fun a o z e _ => by rw [upd_ne (fun w => hA0 (by rw [← w]; exact z))]; exact e⟩
      refine ⟨acc, hD6, Nat.lt_of_le_of_lt hacc (big_lt (by omega)), hlt, A6, ρ6, acc ++ [v], dacc ++ [y], ys', lt, Ruw, hJ.stay _ _ _ _ (hJ.stay _ _ _ _ wc l36.l) lu, upd_same, ((rc.later l36.l).later lu).app (.one (ry.later lu)), hA6, by rw [List.length_append]; simpa using hacc, q9, by rw [List.append_assoc]; exact hall⟩
  · rw [List.drop_of_length_le (by omega)] at qc
    cases qc
    refine .inl ⟨hJ.stop Ac Hc i wc (by omega), ?_⟩
    rw [List.append_nil] at hall
    subst hall
    refine k _ Hc Ac [D] (l1.trans lc) (RS.back R1 h2 lc (Rc.minus hH0)) ⟨D, acc, rfl, rfl, hc, rc⟩ (by simp) fun a m => ?_
    obtain rfl : a = D := by simpa using m
    exact ⟨hH0, hAc, hA0⟩
theorem tLc_of {K : PySem.W.Frag} {own is : List Nat} {f : Im} {h : D → Rho → Option Rho} {g : Bm} {el : Em} {σ : L2.St} {H : Hp} {Q : VK} (hsub : ∀ i ∈ is, i ∈ own) (hh : tN K cm (nLc own f h g el) σ H Q) : tLc (tI K cm f) (tG K cm is h) (tT K cm g) (tE K cm el) own σ H Q := by
  obtain ⟨C, A, ρ, t, ρ', R, q, k⟩ := hh
  unfold nLc at q
  rw [Option.bind_eq_some_iff] at q
  obtain ⟨⟨ds, ρ1⟩, h1, q⟩ := q
  dsimp only at q
  split at q
  rotate_left
  · cases q
  rename_i hbig
  simp only [Option.bind_eq_some_iff, Option.map_eq_some_iff] at q
  obtain ⟨ρw, h2, ⟨all, ρ2⟩, h3, h4⟩ := q
  cases h4
  exact tLc_core hsub (fun R' hR => ⟨C, A, ρ, ds, ρ1, R, h1, hR⟩) hbig h2 h3 k
theorem fn_lc {own : List (Str × Nat)} {scope : Scope} {is : List Nat} {f : Im} {h : D → Rho → Option Rho} {g : Bm} {el : Em} (hc : X.calm = true) (hN : X.N.Nodup) (hi : FI X cm tg iter f) (ok : BlkOk X.N X.env.scope scope own)
    (hg : ∀ (s : Shared) (H : Hp) (C : Addr) (cl : List (Str × Addr)) (fp : List Addr), FG (X.blk s H scope (compEnvC scope cl C X.env) fp) cm tg is h) (ht : ∀ (s : Shared) (H : Hp) (C : Addr) (cl : List (Str × Addr)) (fp : List Addr), FTs (X.blk s H scope (compEnvC scope cl C X.env) fp) cm ifs g)
    (he : ∀ (s : Shared) (H : Hp) (C : Addr) (cl : List (Str × Addr)) (fp : List Addr), FE (X.blk s H scope (compEnvC scope cl C X.env) fp) cm elt el) (hsub : ∀ i ∈ is, i ∈ own.map (·.2)) (hs : ∀ x, foldedSetIterable iter X.env x = pure x := by intro _; rfl) :
    FN X cm (.ListComp elt [⟨tg, iter, ifs, 0⟩] scope pos) (nLc (own.map (·.2)) f h g el) :=
  (pe_lc hc hN hi ok hg ht he hs).imp fun σ H Q q => tLc_of hsub q
/-- name = [..] on one line -/
theorem fs_setLc {i : Nat} {y : Str} {py spos : Pos} {own : List (Str × Nat)} {scope : Scope} {is : List Nat} {f : Im} {h : D → Rho → Option Rho} {g : Bm} {el : Em} (hc : X.calm = true) (hN : X.N.Nodup) (hy : X.N[i]? = some y) (hyl : X.env.scope.names.lookup y = some .local)
    (hsw : swapsWith (.ListComp elt [⟨tg, iter, ifs, 0⟩] scope pos) (some (.Name y py)) spos.line X.env = pure true) (hi : FI X cm tg iter f) (ok : BlkOk X.N X.env.scope scope own)
    (hg : ∀ (s : Shared) (H : Hp) (C : Addr) (cl : List (Str × Addr)) (fp : List Addr), FG (X.blk s H scope (compEnvC scope cl C X.env) fp) cm tg is h) (ht : ∀ (s : Shared) (H : Hp) (C : Addr) (cl : List (Str × Addr)) (fp : List Addr), FTs (X.blk s H scope (compEnvC scope cl C X.env) fp) cm ifs g)
    (he : ∀ (s : Shared) (H : Hp) (C : Addr) (cl : List (Str × Addr)) (fp : List Addr), FE (X.blk s H scope (compEnvC scope cl C X.env) fp) cm elt el) (hsub : ∀ i ∈ is, i ∈ own.map (·.2)) (hs : ∀ x, foldedSetIterable iter X.env x = pure x := by intro _; rfl) :
    FS X cm (.Assign [.Name y py] (.ListComp elt [⟨tg, iter, ifs, 0⟩] scope pos) spos) (sAsg i (nLc (own.map (·.2)) f h g el)) :=
  (ps_setLc hc hN hy hyl hsw hi ok hg ht he hs).imp fun D σ H q => tLc_of hsub (sAsg_of q)
end
end G

/-! Ly8: defs and their calls. -/
namespace G
open PySem PySem.Spec L2
open PyProof.Rows (envOfC)

section
variable {K : PySem.W.Frag} {cm : Cm} {A A' : AS} {H H' : Hp} {C : Fc} {σ : L2.St} {ρ ρ' : Rho} {Y : List Addr}
theorem RS.ext (m : Nat) (R : RS K cm C A Y σ H ρ) : RS K cm C A Y (σ ++ List.replicate m none) H (ρ ++ List.replicate m .no) := by
  obtain ⟨F, h1, h2, h3, h4, h5⟩ := R.sl
  have hl := R.len
  refine ⟨by simp [hl], ⟨F, h1, h2, h3, fun j e => ?_, fun j s e => ?_⟩, R.out, R.sub, R.dom, R.fr, R.fd, R.tb, R.ne⟩
  · refine h4 j ?_
    rw [List.getElem?_eq_none_iff] at e ⊢
    rw [List.length_append] at e
    omega
  · by_cases hj : j < ρ.length
    · rw [List.getElem?_append_left hj] at e
      obtain ⟨o, e1, r⟩ := h5 j s e
      exact ⟨o, by rw [List.getElem?_append_left (by omega)]; exact e1, r⟩
    · rw [List.getElem?_append_right (by omega), List.getElem?_replicate] at e
      split at e
      · rename_i hm
        cases e
        refine ⟨none, ?_, h4 j (List.getElem?_eq_none (by omega))⟩
        rw [List.getElem?_append_right (by omega), List.getElem?_replicate, if_pos (by omega)]
      · cases e
theorem RS.take (n : Nat) (R : RS K cm C A Y σ H ρ) : RS K cm C A Y (σ.take n) H (ρ.take n) := by
  obtain ⟨F, h1, h2, h3, h4, h5⟩ := R.sl
  have hl := R.len
  refine ⟨by simp [hl], ⟨fun j => if j < n then F j else [], fun j => ?_, fun j k a m m' => ?_, fun j a m => ?_, fun j e => ?_, fun j s e => ?_⟩, R.out, R.sub, R.dom, R.fr, R.fd, R.tb, R.ne⟩
  · dsimp only; split
    · exact h1 j
    · exact .nil
  · dsimp only at m m'
    split at m <;> split at m' <;> first | cases m | cases m' | exact h2 j k a m m'
  · dsimp only at m
    split at m
    · exact h3 j a m
    · cases m
  · dsimp only
    split
    · rename_i hj
      refine h4 j ?_
      rw [List.getElem?_take, if_pos hj] at e
      exact e
    · rfl
  · dsimp only
    by_cases hj : j < n
    · rw [List.getElem?_take, if_pos hj] at e
      obtain ⟨o, e1, r⟩ := h5 j s e
      rw [if_pos hj]
      exact ⟨o, by rw [List.getElem?_take, if_pos hj]; exact e1, r⟩
    · rw [List.getElem?_take, if_neg hj] at e; cases e
end
/-- a def: its body at the parameters -/
def runD (m : Nat) (g : Sm) : Rho → Option (T × Rho) := fun ss => (g (ss ++ List.replicate m .no)).bind fun o => match o with
  | .rt t ρ => some (t, ρ.take ss.length)
  | .nx ρ => some (.p .non, ρ.take ss.length)
  | _ => none
def cIn (H : Hp) (P : AS) (A : AS) (vs : List V) : Fc := ⟨H, P, fun a => A a ∧ ¬ P a, fun i => vs[i]?⟩
/-- the promise of a def -/
def spG (K : PySem.W.Frag) (cm : Cm) (n : Nat) (f : Rho → Option (T × Rho)) : Sp := fun vs H Q _ => vs.length = n ∧ ∃ P A ss t ss', RS K cm (cIn H P A vs) A [] (vs.map some) H ss ∧ f ss = some (t, ss') ∧
  ∀ v H' A' F σ', Lt (cIn H P A vs) A H A' H' → RS K cm (cIn H P A vs) A' F σ' H' ss' → RT K cm A' H' v t F → F.Nodup → (∀ a ∈ F, H a = none ∧ A' a ∧ ¬ (cIn H P A vs).A0 a) → Q v H'
abbrev FnG (P : Program) (w : World) (K : PySem.W.Frag) (mg : Str → Option Value) (base : Heap) (cm : Cm) (k : Nat) (f : Addr) (fd : FuncData) (ps : List Str) (g : Rho → Option (T × Rho)) : Prop := FnOk P w K mg base CX0 k f fd ps (spG K cm ps.length g)
section
variable {P : Program} {w : World} {K : PySem.W.Frag} {mg : Str → Option Value} {base : Heap} {cm : Cm}
theorem fd_ok {x qual : Str} {st : Stmt} {f : Addr} {fd : FuncData} {N ps : List Str} {k : Nat} {g : Sm} (F : Fun K x qual st f fd) (S : FnScope N ps (defScope st))
    (hb : ∀ (cdv : Value) (A : Around) (outer : List Env) (s : Shared) (H : Hp) (E : XK), Room k (A.deeper (envOfC qual (defScope st) s.heap.objs.size f cdv)) → FSs (cxOf CX0 P w K mg base N qual (defScope st) f cdv A outer s H E).nox cm (defBody st) g) :
    FnG P w K mg base cm (k + 1) f fd ps (runD (N.length - ps.length) g) := by
  refine F.ok S (fun vs H Q E h => h.1) fun cdv A outer s H vs Q E hr ⟨hl, Pw, A', ss, t, ss', R, q, kk⟩ => ⟨_, hb cdv A outer s H E hr, ?_⟩
  unfold runD at q
  rw [Option.bind_eq_some_iff] at q
  obtain ⟨o, q1, q2⟩ := q
  have hs : ss.length = vs.length := by have := R.len; simpa using this.symm
  have R0 := R.ext (N.length - vs.length)
  rw [← hl] at q1
  refine ⟨_, A', _, o, R0, q1, ?_⟩
  cases o with
  | nx ρ =>
    cases q2
    exact fun σ1 H1 A1 l1 R1 => kk _ H1 A1 [] _ l1 (R1.take ss.length) (RT.pure .non) .nil fun a m => nomatch m
  | rt t' ρ =>
    cases q2
    exact fun v σ1 H1 A1 F l1 R1 rt hn hF => kk v H1 A1 F _ l1 (R1.take ss.length) rt hn hF
  | bk ρ => cases q2
  | ct ρ => cases q2
/-- a def of which nothing is told -/
theorem fd_none {f : Addr} {fd : FuncData} {ps : List Str} {k : Nat} : FnG P w K mg base cm k f fd ps (fun _ => none) :=
  ⟨fun vs H Q E h => h.1, fun A outer s H args us vs Q E _ _ _ _ ⟨_, _, _, _, _, _, _, q, _⟩ => nomatch q⟩
theorem FnG.imp {f : Addr} {fd : FuncData} {ps : List Str} {k : Nat} {g g' : Rho → Option (T × Rho)} (F : FnG P w K mg base cm k f fd ps g) (h : ∀ ss t, g' ss = some t → g ss = some t) : FnG P w K mg base cm k f fd ps g' :=
  FnOk.imp F fun vs H Q E ⟨hl, Pw, A', ss, t, ss', R, q, kk⟩ => ⟨hl, Pw, A', ss, t, ss', R, h _ _ q, kk⟩
end

/-! ### calls with arguments that nobody changes -/
def slP (ds : List D) : Rho := ds.map fun d => .v (.p d)
theorem slP_length (ds : List D) : (slP ds).length = ds.length := by simp [slP]
section
variable {X : Cx} {cm : Cm} {pos p : Pos} {e : Expr} {es : List Expr}
theorem RS.args {K : PySem.W.Frag} {C : Fc} {A : AS} {σ : L2.St} {H : Hp} {ρ : Rho} {vs : List V} {ds : List D} (R : RS K cm C A [] σ H ρ) (r : RpL K cm A H vs ds) : RS K cm (cIn H (fun _ => False) A vs) A [] (vs.map some) H (slP ds) := by
  refine ⟨by rw [List.length_map, slP_length, r.length], ⟨fun _ => [], fun _ => .nil, fun _ _ _ m => (nomatch m), fun _ _ m => (nomatch m), fun _ _ => rfl, fun i s e => ?_⟩, fun a z => z.1, fun a z => .inl ⟨z, id⟩, R.dom, fun _ _ e _ _ => e, fun _ e => e, R.tb, R.ne⟩
  simp only [slP, List.getElem?_map, Option.map_eq_some_iff] at e
  obtain ⟨d, e1, rfl⟩ := e
  obtain ⟨v, e2, r2⟩ := r.get e1
  exact ⟨some v, by rw [List.getElem?_map, e2]; rfl, v, rfl, RT.pure r2, fun a m => nomatch m⟩
/-- behind such a call: the caller's state -/
theorem RS.after {K : PySem.W.Frag} {C : Fc} {A A' : AS} {σ σ' : L2.St} {H H' : Hp} {ρ ss : Rho} {vs : List V} {F : List Addr} (R : RS K cm C A [] σ H ρ) (l : Lt (cIn H (fun _ => False) A vs) A H A' H') (R' : RS K cm (cIn H (fun _ => False) A vs) A' F σ' H' ss)
    (hF : ∀ a ∈ F, H a = none ∧ A' a ∧ ¬ (cIn H (fun _ => False) A vs).A0 a) : Lt C A H A' H' ∧ RS K cm C A' F σ H' ρ ∧ ∀ a ∈ F, C.H0 a = none ∧ A' a ∧ ¬ C.A0 a := by
  have kept : ∀ a o, A a → H a = some o → NT o → H' a = some o := fun a o z e t => l.o a o ⟨z, id⟩ e t
  have inA : ∀ a, A a → A' a := fun a z => R'.out a ⟨z, id⟩
  refine ⟨⟨l.l, fun a o z e t => kept a o (R.out a z) e t⟩, ?_, fun a m => ⟨R.new0 (hF a m).1, (hF a m).2.1, fun z => (hF a m).2.2 ⟨R.out a z, id⟩⟩⟩
  obtain ⟨Fs, h1, h2, h3, h4, h5⟩ := R.sl
  refine ⟨R.len, ⟨Fs, h1, h2, fun i a m => ⟨inA a (h3 i a m).1, (h3 i a m).2.1, fun z => R.dom a (h3 i a m).1 (hF a z).1⟩, h4, fun i s e => ?_⟩, fun a z => inA a (R.out a z), fun a z => ?_, R'.dom, fun a o e t n => R'.fr a o (R.fr a o e t n) t id, fun a z => R'.fd a (R.fd a z), R'.tb, R'.ne⟩
  · obtain ⟨o, e1, r⟩ := h5 i s e
    exact ⟨o, e1, r.keep l.l fun a m o q t => kept a o (h3 i a m).1 q t⟩
  · rcases R'.sub a z with q | q | q
    · exact R.sub a q.1
    · exact q.elim
    · exact .inr (.inr (R.new0 q))
def nCall (n : Nat) (f : Rho → Option (T × Rho)) (g : Am) : Rho → Option (T × Rho) := fun ρ => (g ρ).bind fun p => (pus p.2 p.1).bind fun ds => if ds.length = n then (f (slP ds)).map fun r => (r.1, p.2) else none
theorem spG_of {K : PySem.W.Frag} {f : Rho → Option (T × Rho)} {C : Fc} {A : AS} {σ : L2.St} {H : Hp} {ρ : Rho} {vs : List V} {ds : List D} {n : Nat} {t : T} {ss' : Rho} {Q : VK} {E : XK} (R : RS K cm C A [] σ H ρ) (r : RpL K cm A H vs ds) (hn : ds.length = n) (q : f (slP ds) = some (t, ss'))
    (k : ∀ v H' A' F, Lt C A H A' H' → RS K cm C A' F σ H' ρ → RT K cm A' H' v t F → F.Nodup → (∀ a ∈ F, C.H0 a = none ∧ A' a ∧ ¬ C.A0 a) → Q v H') : spG K cm n f vs H Q E := by
  refine ⟨by rw [r.length, hn], fun _ => False, A, slP ds, t, ss', R.args r, q, fun v H' A' F σ' l R' rt hnd hF => ?_⟩
  obtain ⟨l', R2, hF'⟩ := R.after l R' hF
  exact k v H' A' F l' R2 rt hnd hF'
/-- a def that stands at its name -/
def Dg (P : Program) (w : World) (K : PySem.W.Frag) (mg : Str → Option Value) (base : Heap) (cm : Cm) (k : Nat) (x : Str) (ps : List Str) (m : Rho → Option (T × Rho)) : Prop :=
  ∃ f fd, FnG P w K mg base cm k f fd ps m ∧ mg x = some (.ref f) ∧ PySem.W.keepIn K (.ref f) = true ∧ Binds K fd ps []
theorem tN_call {K : PySem.W.Frag} {n : Nat} {m : Rho → Option (T × Rho)} {g : Am} {σ : L2.St} {H : Hp} {Q : VK} {E : XK} (h : tN K cm (nCall n m g) σ H Q) : tCall (spG K cm n m) [] E (tAs K cm g) σ H Q := by
  obtain ⟨C, A, ρ, t, ρ', R, q, kk⟩ := h
  unfold nCall at q
  simp only [Option.bind_eq_some_iff] at q
  obtain ⟨⟨rs, ρ1⟩, h1, ds, h2, h3⟩ := q
  dsimp only at h3
  split at h3
  rotate_left
  · cases h3
  rename_i hn
  simp only [Option.map_eq_some_iff] at h3
  obtain ⟨⟨t', ss'⟩, h4, h5⟩ := h3
  cases h5
  refine ⟨C, A, ρ, rs, _, R, h1, fun vs H1 A1 l1 R1 w1 => ?_⟩
  show spG K cm n m (vs ++ []) H1 Q E
  rw [List.append_nil]
  exact spG_of R1 (pus_ok R1 w1 h2) hn h4 fun v H' A' F l R2 rt hnd hF => kk v H' A' F (l1.trans l) R2 rt hnd hF
theorem fn_call {ps : List Str} {k j n : Nat} {x : Str} {m : Rho → Option (T × Rho)} {g : Am} (D : Dg X.prog X.w X.K X.mg X.base cm k x ps m) (hr : Room j X.A) (hk : k ≤ j) (hg : Gl X x) (ha : FA X cm (e :: es) g) (hn : ps.length = n := by rfl)
    (hdb : (x == ("__debug__" : Str)) = false := by decide) (he : starEach (e :: es) X.env = (false, eval e X.env) :: starEach es X.env := by rfl) (hpl : (backTo pos (starEach es X.env)).any (·.1) = false := by rfl) :
    FN X cm (.Call (.Name x p) (e :: es) [] pos) (nCall n m g) := by
  subst hn
  obtain ⟨f, fd, F, hm, hkp, hb⟩ := D
  exact (pe_call F (hr.mono hk) hg hm hkp hb .nil pass0 ha hdb he hpl).imp fun σ H Q q => tN_call q
theorem fn_call0 {k j : Nat} {x : Str} {m : Rho → Option (T × Rho)} (D : Dg X.prog X.w X.K X.mg X.base cm k x [] m) (hr : Room j X.A) (hk : k ≤ j) (hg : Gl X x) (hdb : (x == ("__debug__" : Str)) = false := by decide) :
    FN X cm (.Call (.Name x p) [] [] pos) (nCall 0 m aNil) := by
  obtain ⟨f, fd, F, hm, hkp, hb⟩ := D
  refine (pe_call0 F (hr.mono hk) hg hm hkp hb .nil pass0 hdb).imp fun σ H Q q => ?_
  have q' := tN_call (E := E0) q
  obtain ⟨C, A, ρ, rs, ρ', R, h1, h2⟩ := q'
  cases h1
  exact h2 [] H A (.refl A H) R .nil
end
end G

/-! Ly9: items, slices, built-in functions, methods; stores into what one owns. -/
namespace G
open PySem PySem.Spec L2

/-! ### items -/
def lookK {κ : Type} [DecidableEq κ] (kvs : List (κ × D)) (k : κ) : Option D := (kvs.find? fun kv => decide (kv.1 = k)).map (·.2)
def cIx : D → D → Option D
  | .lst ds, .int i => atI ds i
  | .tup ds, .int i => atI ds i
  | .str s, .int i => if s.length ≤ big then (atI s i).map fun c => .str [c] else none
  | .dic kvs, .int n => lookK kvs (.i n)
  | .dic kvs, .str t => lookK kvs (.s t)
  | _, _ => none
section
variable {K : PySem.W.Frag} {cm : Cm} {A : AS} {H : Hp}
theorem RpL.atI {xs : List V} {ds : List D} {i : Int} {d : D} (r : RpL K cm A H xs ds) (e : L2.atI ds i = some d) : ∃ v, L2.atI xs i = some v ∧ Rp K cm A H v d := by
  unfold L2.atI at e ⊢
  rw [r.length]
  cases q : ixN ds.length i with
  | none => rw [q] at e; cases e
  | some j =>
    rw [q] at e
    exact r.get e
theorem RpK.look {k : DK} : ∀ {ks : List (Key × V)} {kvs : List (DK × D)} {d : D}, RpK K cm A H ks kvs → lookK kvs k = some d → ∃ v, valV ks k.k = some v ∧ Rp K cm A H v d
  | _, _, _, .nil, e => by cases e
  | _, _, d, .cons (k := k') (d := d') h r, e => by
    by_cases q : k' = k
    · subst q
      unfold lookK at e
      rw [List.find?_cons_of_pos (by simp)] at e
      cases e
      exact ⟨_, by unfold valV; rw [List.find?_cons_of_pos (by simp)]; rfl, h⟩
    · unfold lookK at e
      rw [List.find?_cons_of_neg (by simpa using q)] at e
      obtain ⟨v, e1, e2⟩ := RpK.look r e
      refine ⟨v, ?_, e2⟩
      unfold valV
      rw [List.find?_cons_of_neg (by simpa using fun z => q (DK.k_inj z))]
      exact e1
theorem RpK.lookN {k : DK} : ∀ {ks : List (Key × V)} {kvs : List (DK × D)}, RpK K cm A H ks kvs → lookK kvs k = none → valV ks k.k = none
  | _, _, .nil, e => rfl
  | _, _, .cons (k := k') (d := d') h r, e => by
    by_cases q : k' = k
    · subst q
      unfold lookK at e
      rw [List.find?_cons_of_pos (by simp)] at e
      cases e
    · unfold lookK at e
      rw [List.find?_cons_of_neg (by simpa using q)] at e
      unfold valV
      rw [List.find?_cons_of_neg (by simpa using fun z => q (DK.k_inj z))]
      exact RpK.lookN r e
end
section
variable {X : Cx} {cm : Cm} {pos : Pos} {e a b c : Expr} {es : List Expr}
/-- an operator's rule at these data -/
theorem tOp_at {K : PySem.W.Frag} {r : R2} {f g : Em} {σ : L2.St} {H : Hp} {Q : VK} {C : Fc} {A : AS} {ρ ρ1 ρ2 : Rho} {p q : RV} {x y z : D} (R : RS K cm C A [] σ H ρ) (h1 : f ρ = some (p, ρ1)) (h2 : g ρ1 = some (q, ρ2)) (h3 : rd ρ2 p = some x) (h4 : rd ρ2 q = some y)
    (k : ∀ v H' A', Lt C A H A' H' → RS K cm C A' [] σ H' ρ2 → RRV K cm A' H' σ v (.val z) → Q v H')
    (hr : ∀ A H vx vy (Q : VK), (∀ a, A a → H a ≠ none) → Ro K cm A H vx x → Ro K cm A H vy y → (∀ z' H', Same H H' → Rp K cm A H' z' z → Q z' H') → r vx vy H Q) : tOp r (tE K cm f) (tE K cm g) σ H Q := by
  refine ⟨C, A, ρ, p, ρ1, R, h1, fun v1 H1 A1 l1 R1 w1 => ⟨C, A1, ρ1, q, ρ2, R1, h2, fun v2 H2 A2 l2 R2 w2 => ?_⟩⟩
  refine hr A2 H2 v1 v2 Q R2.dom (rd_ok R2 (w1.later l2) h3) (rd_ok R2 w2 h4) fun z' H' g rz => ?_
  exact k z' H' A2 ((l1.trans l2).trans (.same g)) (R2.grow g) rz
def eIx (f g : Em) : Em := eOp cIx f g
theorem fe_ix {f g : Em} (hu : X.A.units + 1 < cLine) (ha : FE X cm a f) (hb : FE X cm b g) (hs : PlainIx b := by exact fun _ _ => rfl) (hs2 : NoSl b := by exact fun _ _ => rfl) : FE X cm (.Subscript a b pos) (eIx f g) :=
  ((pe_ix ix_seq ha hb hs).or (pe_dget hu ha hb hs2)).imp fun σ H Q ⟨C, A, ρ, t, ρ', R, q, k⟩ => by
    obtain ⟨p, ρ1, r, x, y, z, h1, h2, h3, h4, h5, rfl⟩ := eOp_some q
    cases x with
    | lst ds =>
      cases y <;> (try cases h5)
      refine .inl (tOp_at R h1 h2 h3 h4 k fun A H vx vy Q hd hx hy kk => .inl ?_)
      cases hy.int
      obtain ⟨a, xs, rfl, hl, rl⟩ := hx.ls
      obtain ⟨v, e1, e2⟩ := rl.atI h5
      exact ⟨a, xs, _, v, rfl, rfl, hl, e1, kk _ H (.refl H) e2⟩
    | tup ds =>
      cases y <;> (try cases h5)
      refine .inl (tOp_at R h1 h2 h3 h4 k fun A H vx vy Q hd hx hy kk => .inr (.inl ?_))
      cases hy.int
      obtain ⟨a, xs, rfl, hl, rl⟩ := hx.tup
      obtain ⟨v, e1, e2⟩ := rl.atI h5
      exact ⟨a, xs, _, v, rfl, rfl, hl, e1, kk _ H (.refl H) e2⟩
    | str s =>
      cases y <;> (try cases h5)
      refine .inl (tOp_at R h1 h2 h3 h4 k fun A H vx vy Q hd hx hy kk => .inr (.inr ?_))
      cases hy.int
      cases hx.str
      simp only [cIx] at h5
      split at h5
      · rename_i hz
        rw [Option.map_eq_some_iff] at h5
        obtain ⟨c, e1, rfl⟩ := h5
        exact ⟨S s, _, c, rfl, rfl, big_le (by rw [S_len]; exact hz), by rw [S_cps]; exact e1, kk _ H (.refl H) (.str [c])⟩
      · cases h5
    | dic kvs =>
      refine .inr ?_
      show tOp (fun x y H Q => ∃ a v, x = .ref a ∧ DGet H a y (some v) ∧ Q v H) (tE X.K cm f) (tE X.K cm g) σ H Q
      refine tOp_at R h1 h2 h3 h4 k fun A H vx vy Q hd hx hy kk => ?_
      obtain ⟨a, ks, rfl, hl, rl⟩ := hx.di
      cases y <;> (try cases h5)
      · cases hy.int
        obtain ⟨v, e1, e2⟩ := rl.look h5
        exact ⟨a, v, rfl, .inl ⟨ks, _, hl, rfl, e1.symm⟩, kk _ H (.refl H) e2⟩
      · cases hy.str
        obtain ⟨v, e1, e2⟩ := rl.look h5
        exact ⟨a, v, rfl, .inl ⟨ks, _, hl, rfl, e1.symm⟩, kk _ H (.refl H) e2⟩
    | _ => cases h5

/-! ### slices -/
def cutD {α : Type} (xs : List α) (lo hi : Option Int) : List α := (xs.drop (HT.sIx xs.length 0 lo)).take (HT.sIx xs.length xs.length hi - HT.sIx xs.length 0 lo)
def cSl (d : D) (lo hi : Option Int) : Option D := match d with
  | .lst ds => some (.lst (cutD ds lo hi))
  | .tup ds => some (.tup (cutD ds lo hi))
  | .str s => if s.length ≤ big then some (.str (cutD s lo hi)) else none
  | _ => none
abbrev Om := Rho → Option (Option Int × Rho)
def oNone : Om := fun ρ => some (none, ρ)
def oSome (f : Em) : Om := fun ρ => (f ρ).bind fun p => match rd p.2 p.1 with
  | some (.int i) => some (some i, p.2)
  | _ => none
def tO (K : PySem.W.Frag) (cm : Cm) (f : Om) : TO := fun σ H Q => ∃ C A ρ o ρ', RS K cm C A [] σ H ρ ∧ f ρ = some (o, ρ') ∧ ∀ H' A', Lt C A H A' H' → RS K cm C A' [] σ H' ρ' → Q o H'
theorem _root_.L2.PO.imp {e : Option Expr} {t t' : TO} (h : PO X e t) (i : ∀ σ H Q, t' σ H Q → t σ H Q) : PO X e t' := ⟨fun pins s σ H Q I q => h.run pins s σ H Q I (i σ H Q q)⟩
abbrev FO (X : Cx) (cm : Cm) (e : Option Expr) (f : Om) : Prop := PO X e (tO X.K cm f)
theorem fo_none : FO X cm none oNone := po_none.imp fun σ H Q ⟨C, A, ρ, t, ρ', R, q, k⟩ => by
  cases q
  exact k H A (.refl A H) R
theorem fo_some {f : Em} (h : FE X cm e f) : FO X cm (some e) (oSome f) := (po_some h).imp fun σ H Q ⟨C, A, ρ, t, ρ', R, q, k⟩ => by
  unfold oSome at q
  rw [Option.bind_eq_some_iff] at q
  obtain ⟨⟨p, ρ1⟩, h1, h2⟩ := q
  dsimp only at h2
  split at h2
  · rename_i h3
    cases h2
    refine ⟨C, A, ρ, p, _, R, h1, fun v H1 A1 l1 R1 w1 => ?_⟩
    cases (rd_ok R1 w1 h3).int
    exact ⟨_, rfl, k H1 A1 l1 R1⟩
  · cases h2
def eSl (f : Em) (l h : Om) : Em := fun ρ => (f ρ).bind fun p => (l p.2).bind fun q => (h q.2).bind fun r => (rd r.2 p.1).bind fun d => (cSl d q.1 r.1).map fun z => (.val z, r.2)
theorem RpL.cut {K : PySem.W.Frag} {A : AS} {H : Hp} {xs : List V} {ds : List D} (r : RpL K cm A H xs ds) (lo hi : Option Int) : RpL K cm A H (cutV xs lo hi) (cutD ds lo hi) := by
  unfold cutV cutD
  rw [r.length]
  exact (r.drop _).take _
theorem fe_sl {f : Em} {l h : Om} {lo hi : Option Expr} {p2 : Pos} (ha : FE X cm a f) (hl : FO X cm lo l) (hh : FO X cm hi h) : FE X cm (.Subscript a (.Slice lo hi none p2) pos) (eSl f l h) :=
  (pe_slice (sl_list.or (sl_tupA.or sl_str)) ha hl hh).imp fun σ H Q ⟨C, A, ρ, t, ρ', R, q, k⟩ => by
    unfold eSl at q
    simp only [Option.bind_eq_some_iff, Option.map_eq_some_iff] at q
    obtain ⟨⟨p, ρ1⟩, h1, ⟨o1, ρ2⟩, h2, ⟨o2, ρ3⟩, h3, d, h4, z, h5, h6⟩ := q
    cases h6
    refine ⟨C, A, ρ, p, ρ1, R, h1, fun v1 H1 A1 l1 R1 w1 => ⟨C, A1, ρ1, o1, ρ2, R1, h2, fun H2 A2 l2 R2 => ⟨C, A2, ρ2, o2, ρ3, R2, h3, fun H3 A3 l3 R3 => ?_⟩⟩⟩
    have ro := rd_ok R3 ((w1.later l2).later l3) h4
    have l13 := (l1.trans l2).trans l3
    cases d <;> (try cases h5)
    · rename_i s
      simp only [cSl] at h5
      split at h5
      · rename_i hz
        cases h5
        cases ro.str
        refine .inr (.inr ⟨_, rfl, big_le (by rw [S_len]; exact hz), k _ H3 A3 l13 R3 ?_⟩)
        have e : cutS (S s) o1 o2 = S (cutD s o1 o2) := by
          unfold cutS cutD
          rw [S_cps, S_len]
          rfl
        rw [e]
        exact .str _
      · cases h5
    · rename_i ds
      obtain ⟨a, xs, rfl, hs, r⟩ := ro.tup
      refine .inr (.inl ⟨a, xs, rfl, hs, fun hw => ?_, fun _ p hp => k _ _ A3 (l13.trans (.same (same_new hp))) (R3.grow (same_new hp)) (new_tup R3.dom hp (r.cut o1 o2))⟩)
      have e : cutD ds o1 o2 = ds := by
        unfold cutD
        rw [← r.length, hw.1, hw.2, r.length]
        simp
      rw [e] at k
      exact k _ H3 A3 l13 R3 (SqT_nil_ref ro)
    · obtain ⟨a, xs, rfl, hs, r⟩ := ro.ls
      exact .inl ⟨a, xs, rfl, hs, fun p hp => k _ _ A3 (l13.trans (.same (same_new hp))) (R3.grow (same_new hp)) (new_lst R3.dom hp (r.cut o1 o2))⟩
/-- a list's slice, as a new list of one's own -/
def nSl (f : Em) (l h : Om) : Rho → Option (T × Rho) := fun ρ => (f ρ).bind fun p => (l p.2).bind fun q => (h q.2).bind fun r => (rd r.2 p.1).bind fun d => match d with
  | .lst ds => some (.ls (cutD ds q.1 r.1), r.2)
  | _ => none
theorem fn_sl {f : Em} {l h : Om} {lo hi : Option Expr} {p2 : Pos} (ha : FE X cm a f) (hl : FO X cm lo l) (hh : FO X cm hi h) : FN X cm (.Subscript a (.Slice lo hi none p2) pos) (nSl f l h) :=
  (pe_slice sl_list ha hl hh).imp fun σ H Q ⟨C, A, ρ, t, ρ', R, q, k⟩ => by
    unfold nSl at q
    simp only [Option.bind_eq_some_iff] at q
    obtain ⟨⟨p, ρ1⟩, h1, ⟨o1, ρ2⟩, h2, ⟨o2, ρ3⟩, h3, d, h4, h5⟩ := q
    dsimp only at h5
    split at h5
    · cases h5
      refine ⟨C, A, ρ, p, ρ1, R, h1, fun v1 H1 A1 l1 R1 w1 => ⟨C, A1, ρ1, o1, ρ2, R1, h2, fun H2 A2 l2 R2 => ⟨C, A2, ρ2, o2, _, R2, h3, fun H3 A3 l3 R3 => ?_⟩⟩⟩
      obtain ⟨a, xs, rfl, hs, r⟩ := (rd_ok R3 ((w1.later l2).later l3) h4).ls
      refine ⟨a, xs, rfl, hs, fun p hp => ?_⟩
      obtain ⟨l4, R4, hF⟩ := own1 (o := .lst (cutV xs o1 o2)) R3 hp
      exact k _ _ _ [p] (((l1.trans l2).trans l3).trans l4) R4 ⟨p, _, rfl, rfl, upd_same, (r.cut o1 o2).later l4.l⟩ (by simp) hF
    · cases h5

/-! ### built-in functions by data -/
def RoL (K : PySem.W.Frag) (cm : Cm) (A : AS) (H : Hp) (vs : List V) (ds : List D) : Prop := Paired (fun v d => Ro K cm A H v d) vs ds
def rds (ρ : Rho) : List RV → Option (List D)
  | [] => some []
  | r :: rs => (rd ρ r).bind fun d => (rds ρ rs).map fun ds => d :: ds
theorem rds_ok {K : PySem.W.Frag} {C : Fc} {A : AS} {σ : L2.St} {H : Hp} {ρ : Rho} (R : RS K cm C A [] σ H ρ) : ∀ {vs : List V} {rs : List RV} {ds : List D}, RRVs K cm A H σ vs rs → rds ρ rs = some ds → RoL K cm A H vs ds
  | _, _, _, .nil, e => by cases e; exact .nil
  | _, _, _, .cons h t, e => by
    unfold rds at e
    simp only [Option.bind_eq_some_iff, Option.map_eq_some_iff] at e
    obtain ⟨d, e1, ds, e2, e3⟩ := e
    cases e3
    exact .cons (rd_ok R h e1) (rds_ok R t e2)
/-- a built-in's rule gives what c says -/
def RC (K : PySem.W.Frag) (cm : Cm) (r : List V → Hp → VK → Prop) (c : List D → Option D) : Prop := ∀ (A : AS) (H : Hp) (vs : List V) (ds : List D) (dz : D) (Q : VK), (∀ a, A a → H a ≠ none) → HL K H →
  RoL K cm A H vs ds → c ds = some dz → (∀ z H', Same H H' → Rp K cm A H' z dz → Q z H') → r vs H Q
/-- .. a new list -/
def RCN (K : PySem.W.Frag) (cm : Cm) (r : List V → Hp → VK → Prop) (c : List D → Option (List D)) : Prop := ∀ (A : AS) (H : Hp) (vs : List V) (ds : List D) (es : List D) (Q : VK), (∀ a, A a → H a ≠ none) → HL K H →
  RoL K cm A H vs ds → c ds = some es → (∀ p xs, H p = none → RpL K cm A H xs es → Q (.ref p) (upd H p (.lst xs))) → r vs H Q
def eCb (c : List D → Option D) (g : Am) : Em := fun ρ => (g ρ).bind fun p => (rds p.2 p.1).bind fun ds => (c ds).map fun z => (.val z, p.2)
def nCb (c : List D → Option (List D)) (g : Am) : Rho → Option (T × Rho) := fun ρ => (g ρ).bind fun p => (rds p.2 p.1).bind fun ds => (c ds).map fun z => (.ls z, p.2)
theorem _root_.L2.PA.hl {es : List Expr} {t : TA} (h : PA X es t) : PA X es (fun σ H Q => t σ H (fun v H' => HL X.K H' → Q v H')) :=
  ⟨fun pos pins s σ H Q I q => thn (h.run pos pins s σ H _ I q) fun u s' ⟨v, H', I', r, k⟩ => ⟨v, H', I', r, k (Inv.hl I')⟩⟩
theorem tCb_of {K : PySem.W.Frag} {r : List V → Hp → VK → Prop} {c : List D → Option D} {g : Am} {σ : L2.St} {H : Hp} {Q : VK} (hr : RC K cm r c) (h : tE K cm (eCb c g) σ H Q) : tCB r (fun σ H Q => tAs K cm g σ H (fun v H' => HL K H' → Q v H')) σ H Q := by
  obtain ⟨C, A, ρ, t, ρ', R, q, k⟩ := h
  unfold eCb at q
  simp only [Option.bind_eq_some_iff, Option.map_eq_some_iff] at q
  obtain ⟨⟨rs, ρ1⟩, h1, ds, h2, z, h3, h4⟩ := q
  cases h4
  exact ⟨C, A, ρ, rs, ρ1, R, h1, fun vs H1 A1 l1 R1 w1 hl => hr A1 H1 vs ds z Q R1.dom hl (rds_ok R1 w1 h2) h3 fun z' H' g rz => k z' H' A1 (l1.trans (.same g)) (R1.grow g) rz⟩
theorem tCbN_of {K : PySem.W.Frag} {r : List V → Hp → VK → Prop} {c : List D → Option (List D)} {g : Am} {σ : L2.St} {H : Hp} {Q : VK} (hr : RCN K cm r c) (h : tN K cm (nCb c g) σ H Q) : tCB r (fun σ H Q => tAs K cm g σ H (fun v H' => HL K H' → Q v H')) σ H Q := by
  obtain ⟨C, A, ρ, t, ρ', R, q, k⟩ := h
  unfold nCb at q
  simp only [Option.bind_eq_some_iff, Option.map_eq_some_iff] at q
  obtain ⟨⟨rs, ρ1⟩, h1, ds, h2, z, h3, h4⟩ := q
  cases h4
  refine ⟨C, A, ρ, rs, ρ1, R, h1, fun vs H1 A1 l1 R1 w1 hl => hr A1 H1 vs ds z Q R1.dom hl (rds_ok R1 w1 h2) h3 fun p xs hp rx => ?_⟩
  obtain ⟨l2, R2, hF⟩ := own1 (o := .lst xs) R1 hp
  exact k _ _ _ [p] (l1.trans l2) R2 ⟨p, xs, rfl, rfl, upd_same, rx.later l2.l⟩ (by simp) hF
section
variable {x : Str} {p : Pos} {id T : String} {r : List V → Hp → VK → Prop} {g : Am}
theorem fe_cb {c : List D → Option D} (hc : CallR X (.builtin id) r) (hr : RC X.K cm r c) (hg : Gl X x) (hm : X.mg x = none) (hv : bootBuiltins x = some (.builtin id)) (ha : FA X cm (e :: es) g) (hn : x ≠ "__name__" := by decide) (hdb : (x == ("__debug__" : Str)) = false := by decide)
    (he : starEach (e :: es) X.env = (false, eval e X.env) :: starEach es X.env := by rfl) (hpl : (backTo pos (starEach es X.env)).any (·.1) = false := by rfl) : FE X cm (.Call (.Name x p) (e :: es) [] pos) (eCb c g) := (pe_callB hc hg hm hv ha.hl hn hdb he hpl).imp fun σ H Q q => tCb_of hr q
theorem fe_ct {c : List D → Option D} (hc : CallR X (.type T) r) (hr : RC X.K cm r c) (hg : Gl X x) (hm : X.mg x = none) (hv : bootBuiltins x = some (.type T)) (ha : FA X cm (e :: es) g) (hn : x ≠ "__name__" := by decide) (hdb : (x == ("__debug__" : Str)) = false := by decide)
    (he : starEach (e :: es) X.env = (false, eval e X.env) :: starEach es X.env := by rfl) (hpl : (backTo pos (starEach es X.env)).any (·.1) = false := by rfl) : FE X cm (.Call (.Name x p) (e :: es) [] pos) (eCb c g) := (pe_callTy hc hg hm hv ha.hl hn hdb he hpl).imp fun σ H Q q => tCb_of hr q
theorem fn_cb {c : List D → Option (List D)} (hc : CallR X (.builtin id) r) (hr : RCN X.K cm r c) (hg : Gl X x) (hm : X.mg x = none) (hv : bootBuiltins x = some (.builtin id)) (ha : FA X cm (e :: es) g) (hn : x ≠ "__name__" := by decide) (hdb : (x == ("__debug__" : Str)) = false := by decide)
    (he : starEach (e :: es) X.env = (false, eval e X.env) :: starEach es X.env := by rfl) (hpl : (backTo pos (starEach es X.env)).any (·.1) = false := by rfl) : FN X cm (.Call (.Name x p) (e :: es) [] pos) (nCb c g) := (pe_callB hc hg hm hv ha.hl hn hdb he hpl).imp fun σ H Q q => tCbN_of hr q
theorem fn_ct {c : List D → Option (List D)} (hc : CallR X (.type T) r) (hr : RCN X.K cm r c) (hg : Gl X x) (hm : X.mg x = none) (hv : bootBuiltins x = some (.type T)) (ha : FA X cm (e :: es) g) (hn : x ≠ "__name__" := by decide) (hdb : (x == ("__debug__" : Str)) = false := by decide)
    (he : starEach (e :: es) X.env = (false, eval e X.env) :: starEach es X.env := by rfl) (hpl : (backTo pos (starEach es X.env)).any (·.1) = false := by rfl) : FN X cm (.Call (.Name x p) (e :: es) [] pos) (nCb c g) := (pe_callTy hc hg hm hv ha.hl hn hdb he hpl).imp fun σ H Q q => tCbN_of hr q
end
end
end G

/-! Ly10: len, int, abs, sum, min, max, all, any, divmod, isinstance; append, pop, items stored, get. -/
namespace G
open PySem PySem.Spec L2

section
variable {X : Cx} {K : PySem.W.Frag} {cm : Cm} {pos : Pos} {e a b c : Expr} {es : List Expr}
theorem RoL.one {A : AS} {H : Hp} {vs : List V} {d : D} (h : RoL K cm A H vs [d]) : ∃ v, vs = [v] ∧ Ro K cm A H v d := by
  cases h with
  | cons h t => cases t; exact ⟨_, rfl, h⟩
theorem RoL.two {A : AS} {H : Hp} {vs : List V} {d e : D} (h : RoL K cm A H vs [d, e]) : ∃ v w, vs = [v, w] ∧ Ro K cm A H v d ∧ Ro K cm A H w e := by
  cases h with
  | cons h t => cases t with
    | cons h' t => cases t; exact ⟨_, _, rfl, h, h'⟩
def cLen : List D → Option D
  | [.str s] => if s.length ≤ big then some (.int s.length) else none
  | [.lst ds] => some (.int ds.length)
  | [.tup ds] => some (.int ds.length)
  | _ => none
theorem rc_len : RC K cm (fun xs H Q => ∃ x n, xs = [x] ∧ LenV K x H n ∧ Q (.int n) H) cLen := by
  intro A H vs ds dz Q hd hl hr e k
  unfold cLen at e
  split at e
  · split at e
    · rename_i hz
      cases e
      obtain ⟨v, rfl, r⟩ := hr.one
      cases r.str
      exact ⟨_, _, rfl, ⟨big_le (by rw [S_len]; exact hz), rfl⟩, by rw [S_len]; exact k _ H (.refl H) (.int _)⟩
    · cases e
  · cases e
    obtain ⟨v, rfl, r⟩ := hr.one
    obtain ⟨a, xs, rfl, hs, rl⟩ := r.ls
    exact ⟨_, _, rfl, .inl ⟨xs, hs, rfl⟩, by rw [rl.length]; exact k _ H (.refl H) (.int _)⟩
  · cases e
    obtain ⟨v, rfl, r⟩ := hr.one
    obtain ⟨a, xs, rfl, hs, rl⟩ := r.tup
    exact ⟨_, _, rfl, .inr ⟨xs, hs, rfl⟩, by rw [rl.length]; exact k _ H (.refl H) (.int _)⟩
  · cases e
def cInt : List D → Option D
  | [.int i] => some (.int i)
  | [.bl b] => some (.int (if b then 1 else 0))
  | _ => none
theorem rc_int : RC K cm (fun xs H Q => (∃ i, xs = [.int i] ∧ Q (.int i) H) ∨ ∃ k, xs = [.bl k] ∧ Q (.int (if k then 1 else 0)) H) cInt := by
  intro A H vs ds dz Q hd hl hr e k
  unfold cInt at e
  split at e
  · cases e
    obtain ⟨v, rfl, r⟩ := hr.one
    cases r.int
    exact .inl ⟨_, rfl, k _ H (.refl H) (.int _)⟩
  · cases e
    obtain ⟨v, rfl, r⟩ := hr.one
    cases r.bl
    exact .inr ⟨_, rfl, k _ H (.refl H) (.int _)⟩
  · cases e
def cAbs : List D → Option D
  | [.int i] => some (.int (if i < 0 then -i else i))
  | _ => none
theorem rc_abs : RC K cm (fun xs H Q => ∃ i, xs = [.int i] ∧ Q (.int (if i < 0 then -i else i)) H) cAbs := by
  intro A H vs ds dz Q hd hl hr e k
  unfold cAbs at e
  split at e
  · cases e
    obtain ⟨v, rfl, r⟩ := hr.one
    cases r.int
    exact ⟨_, rfl, k _ H (.refl H) (.int _)⟩
  · cases e
def cMax2 : List D → Option D
  | [.int i, .int j] => some (.int (if j > i then j else i))
  | _ => none
def cMin2 : List D → Option D
  | [.int i, .int j] => some (.int (if j < i then j else i))
  | _ => none
theorem rc_max2 : RC K cm (fun xs H Q => ∃ i j, xs = [.int i, .int j] ∧ Q (.int (if j > i then j else i)) H) cMax2 := by
  intro A H vs ds dz Q hd hl hr e k
  unfold cMax2 at e
  split at e
  · cases e
    obtain ⟨v, w, rfl, r, r'⟩ := hr.two
    cases r.int; cases r'.int
    exact ⟨_, _, rfl, k _ H (.refl H) (.int _)⟩
  · cases e
theorem rc_min2 : RC K cm (fun xs H Q => ∃ i j, xs = [.int i, .int j] ∧ Q (.int (if j < i then j else i)) H) cMin2 := by
  intro A H vs ds dz Q hd hl hr e k
  unfold cMin2 at e
  split at e
  · cases e
    obtain ⟨v, w, rfl, r, r'⟩ := hr.two
    cases r.int; cases r'.int
    exact ⟨_, _, rfl, k _ H (.refl H) (.int _)⟩
  · cases e
def D.i? : D → Option Int
  | .int i => some i
  | _ => none
def intL : List D → Option (List Int)
  | [] => some []
  | d :: ds => d.i?.bind fun i => (intL ds).map fun r => i :: r
def D.b? : D → Option Bool
  | .bl i => some i
  | _ => none
def boolL : List D → Option (List Bool)
  | [] => some []
  | d :: ds => d.b?.bind fun i => (boolL ds).map fun r => i :: r
theorem RpL.intL {A : AS} {H : Hp} : ∀ {xs : List V} {ds : List D} {ns : List Int}, RpL K cm A H xs ds → G.intL ds = some ns → xs = ns.map V.int
  | _, _, _, .nil, e => by cases e; rfl
  | _, _, _, .cons h t, e => by
    simp only [G.intL, Option.bind_eq_some_iff, Option.map_eq_some_iff] at e
    obtain ⟨i, e1, r, e2, e3⟩ := e
    cases e3
    cases h <;> cases e1
    rw [t.intL e2]; rfl
theorem RpL.boolL {A : AS} {H : Hp} : ∀ {xs : List V} {ds : List D} {ns : List Bool}, RpL K cm A H xs ds → G.boolL ds = some ns → xs = ns.map V.bl
  | _, _, _, .nil, e => by cases e; rfl
  | _, _, _, .cons h t, e => by
    simp only [G.boolL, Option.bind_eq_some_iff, Option.map_eq_some_iff] at e
    obtain ⟨i, e1, r, e2, e3⟩ := e
    cases e3
    cases h <;> cases e1
    rw [t.boolL e2]; rfl
def cSum : List D → Option D
  | [.lst ds] => (intL ds).map fun ns => .int ns.sum
  | _ => none
theorem rc_sum : RC K cm (rSum K) cSum := by
  intro A H vs ds dz Q hd hl hr e k
  unfold cSum at e
  split at e
  · rw [Option.map_eq_some_iff] at e
    obtain ⟨ns, e1, rfl⟩ := e
    obtain ⟨v, rfl, r⟩ := hr.one
    obtain ⟨a, xs, rfl, hs, rl⟩ := r.ls
    have := rl.intL e1
    subst this
    exact ⟨a, ns, rfl, hs, k _ H (.refl H) (.int _)⟩
  · cases e
def cAll : List D → Option D
  | [.lst ds] => (boolL ds).map fun ns => .bl (ns.all id)
  | _ => none
def cAny : List D → Option D
  | [.lst ds] => (boolL ds).map fun ns => .bl (ns.any id)
  | _ => none
theorem rc_all : RC K cm (rAll K) cAll := by
  intro A H vs ds dz Q hd hl hr e k
  unfold cAll at e
  split at e
  · rw [Option.map_eq_some_iff] at e
    obtain ⟨ns, e1, rfl⟩ := e
    obtain ⟨v, rfl, r⟩ := hr.one
    obtain ⟨a, xs, rfl, hs, rl⟩ := r.ls
    have := rl.boolL e1
    subst this
    exact ⟨a, ns, rfl, hs, k _ H (.refl H) (.bl _)⟩
  · cases e
theorem rc_any : RC K cm (rAny K) cAny := by
  intro A H vs ds dz Q hd hl hr e k
  unfold cAny at e
  split at e
  · rw [Option.map_eq_some_iff] at e
    obtain ⟨ns, e1, rfl⟩ := e
    obtain ⟨v, rfl, r⟩ := hr.one
    obtain ⟨a, xs, rfl, hs, rl⟩ := r.ls
    have := rl.boolL e1
    subst this
    exact ⟨a, ns, rfl, hs, k _ H (.refl H) (.bl _)⟩
  · cases e
def cDivmod : List D → Option D
  | [.int i, .int j] => if 0 < j ∧ j.natAbs < 1073741824 then some (.tup [.int (i / j), .int (i % j)]) else none
  | _ => none
theorem rc_divmod : RC K cm (fun xs H Q => ∃ i j, xs = [.int i, .int j] ∧ CDiv i j ∧ ∀ p, H p = none → Q (.ref p) (upd H p (.tup [.int (i / j), .int (i % j)]))) cDivmod := by
  intro A H vs ds dz Q hd hl hr e k
  unfold cDivmod at e
  split at e
  · split at e
    · rename_i hz
      cases e
      obtain ⟨v, w, rfl, r, r'⟩ := hr.two
      cases r.int; cases r'.int
      exact ⟨_, _, rfl, ⟨hz.1, by omega⟩, fun p hp => k _ _ (same_new hp) (new_tup hd hp (.cons (.int _) (.cons (.int _) .nil)))⟩
    · cases e
  · cases e
/-! ### isinstance -/
def D.ty : D → String
  | .non => "NoneType"
  | .bl _ => "bool"
  | .int _ => "int"
  | .str _ => "str"
  | .tup _ => "tuple"
  | .lst _ => "list"
  | .dic _ => "dict"
  | .dit _ => "dict"
  | .obj _ _ => "object"
  | .fn _ => "function"
def tyName (T : String) : Bool := T == "int" || T == "bool" || T == "str" || T == "tuple" || T == "list" || T == "dict"
def isT (T : String) (d : D) : Bool := d.ty == T || (T == "int" && d.ty == "bool")
def eIsi (T : String) (f : Em) : Em := fun ρ => (f ρ).bind fun p => (rd p.2 p.1).bind fun d => match d with
  | .obj _ _ => none
  | .dit _ => none
  | .fn _ => none
  | d => some (.val (.bl (isT T d)), p.2)
theorem Ro.tyx {A : AS} {H : Hp} {v : V} {d : D} (h : Ro K cm A H v d) (n : ∀ c fs, d ≠ .obj c fs) (n2 : ∀ fs, d ≠ .dit fs) (n3 : ∀ i, d ≠ .fn i) : TyX K H v (.type d.ty) := by
  cases d with
  | non => cases h.non; exact .base .non
  | bl b => cases h.bl; exact .base (.bl b)
  | int i => cases h.int; exact .base (.int i)
  | str s => cases h.str; exact .base (.str _)
  | tup ds => obtain ⟨a, xs, rfl, hs, r⟩ := h.tup; exact (by
      rcases hs with (hs | ⟨o, hs⟩) | ⟨o, its, n, h1, h2, _⟩
      · exact .base (.tup hs)
      · exact .fTuple hs
      · exact .kTuple h1 h2)
  | lst ds => obtain ⟨a, xs, rfl, hs, r⟩ := h.ls; exact (by
      rcases hs with (hs | ⟨o, hs⟩) | ⟨o, its, n, h1, h2, _⟩
      · exact .base (.lst hs)
      · exact .base (.frz hs)
      · exact .kList h1 h2)
  | dic ds => obtain ⟨a, xs, rfl, hs, r⟩ := h.di; exact (by
      rcases hs with hs | ⟨o, hs⟩
      · exact .base (.dK hs)
      · exact .fDict hs)
  | dit ds => exact absurd rfl (n2 ds)
  | obj c fs => exact absurd rfl (n c fs)
  | fn i => exact absurd rfl (n3 i)
theorem kit_isT {T : String} {d : D} (hT : tyName T = true) (n : ∀ c fs, d ≠ .obj c fs) (n3 : ∀ i, d ≠ .fn i) : PySem.W.kitOne K (.type d.ty) (.type T) = some (isT T d) := by
  refine kit_ty ?_
  unfold tyName at hT
  simp only [Bool.or_eq_true, beq_iff_eq] at hT
  rcases hT with ((((h | h) | h) | h) | h) | h <;> subst h <;> cases d <;> first
    | (exact absurd rfl (n _ _))
    | (exact absurd rfl (n3 _))
    | (simp only [D.ty, isT]; decide +kernel)
theorem fe_isi {T : String} {f : Em} {x y : Str} {p p2 : Pos} (hT : tyName T = true) (hg : Gl X x) (hm : X.mg x = none) (hv : bootBuiltins x = some (.builtin "isinstance")) (ha : FE X cm e f) (hb : PE X (.Name y p2) (tC (.ty T))) (hn : x ≠ "__name__" := by decide) (hdb : (x == ("__debug__" : Str)) = false := by decide)
    (he : starEach [e, .Name y p2] X.env = (false, eval e X.env) :: starEach [.Name y p2] X.env := by rfl) (he2 : starEach [.Name y p2] X.env = (false, eval (.Name y p2) X.env) :: starEach [] X.env := by rfl) (hpl : (backTo pos (starEach [.Name y p2] X.env)).any (·.1) = false := by rfl) :
    FE X cm (.Call (.Name x p) [e, .Name y p2] [] pos) (eIsi T f) :=
  (pe_callB call_isi hg hm hv (pa_cons ha (pa_cons hb pa_nil he2) he) hn hdb he hpl).imp fun σ H Q ⟨C, A, ρ, t, ρ', R, q, k⟩ => by
    unfold eIsi at q
    simp only [Option.bind_eq_some_iff] at q
    obtain ⟨⟨r, ρ1⟩, h1, d, h2, h3⟩ := q
    have hd : (∀ c fs, d ≠ .obj c fs) ∧ (∀ fs, d ≠ .dit fs) ∧ (∀ i, d ≠ .fn i) ∧ t = .val (.bl (isT T d)) ∧ ρ' = ρ1 := by
      cases d <;> cases h3 <;> exact ⟨fun _ _ z => (nomatch z), fun _ z => (nomatch z), fun _ z => (nomatch z), rfl, rfl⟩
    obtain ⟨n1, n2, n3, rfl, rfl⟩ := hd
    refine ⟨C, A, ρ, r, ρ', R, h1, fun v H1 A1 l1 R1 w1 => ?_⟩
    have ro := rd_ok R1 w1 h2
    exact ⟨v, .ty T, _, _, _, rfl, .ty T, ro.tyx n1 n2 n3, kit_isT hT n1 n3, k _ H1 A1 l1 R1 (.bl _)⟩
end
end G

/-! Ly11: what one owns is changed: append, pop, items stored; calls that change an argument; get. -/
namespace G
open PySem PySem.Spec L2

def Sl.w : Sl → T → Sl
  | .no, _ => .no
  | .v _, t => .v t
  | .pin _, t => .pin t
theorem pl_ins {C dx : Addr} {fs : List (Str × V)} : Pl (.ins C dx fs) := ⟨fun _ z => (nomatch z), fun _ z => (nomatch z)⟩
/-- fields that are all plain -/
def pureF : List (Str × T) → Bool
  | [] => true
  | (_, .p _) :: r => pureF r
  | _ => false
def T.root : T → Bool
  | .ls _ => true
  | .di _ => true
  | .dt _ => true
  | .ob _ fs => pureF fs
  | _ => false
section
variable {K : PySem.W.Frag} {cm : Cm} {A A' : AS} {H H' : Hp} {C : Fc} {σ : L2.St} {ρ ρ' : Rho} {Y : List Addr}
theorem RTs.pure0 : ∀ {gs : List (Str × V)} {fs : List (Str × T)} {F : List Addr}, RTs K cm A H gs fs F → pureF fs = true → F = [] ∧ RpF K cm A H gs (T.ds fs)
  | gs, [], F, h, _ => by obtain ⟨rfl, rfl⟩ := h; rw [T.ds]; exact ⟨rfl, .nil⟩
  | gs, (f, .p d) :: r, F, h, e => by
    obtain ⟨v, gs', F1, F2, rfl, rfl, h1, h2⟩ := h
    obtain ⟨rfl, r2⟩ := RTs.pure0 h2 (by simpa [pureF] using e)
    obtain ⟨rfl, h1⟩ := h1
    rw [T.ds, T.d]
    exact ⟨rfl, .cons h1 r2⟩
  | gs, (f, .ls _) :: r, F, h, e => by simp [pureF] at e
  | gs, (f, .di _) :: r, F, h, e => by simp [pureF] at e
  | gs, (f, .dt _) :: r, F, h, e => by simp [pureF] at e
  | gs, (f, .ob _ _) :: r, F, h, e => by simp [pureF] at e
theorem RT.root1 {v : V} {t : T} {F : List Addr} (h : RT K cm A H v t F) (hr : t.root = true) : ∃ l, v = .ref l ∧ F = [l] := by
  cases t with
  | ls ds => obtain ⟨a, xs, e, f, _⟩ := h; exact ⟨a, e, f⟩
  | di ds => obtain ⟨a, xs, e, f, _⟩ := h; exact ⟨a, e, f⟩
  | dt ds => obtain ⟨a, xs, e, f, _⟩ := h; exact ⟨a, e, f⟩
  | ob c fs =>
    obtain ⟨a, dx, gs, F', e, f, _, r⟩ := h
    obtain ⟨rfl, _⟩ := r.pure0 hr
    exact ⟨a, e, f⟩
  | _ => cases hr
/-- one's own thing in a slot, and what it may become -/
theorem RS.root (R : RS K cm C A Y σ H ρ) {i : Nat} {s : Sl} {t : T} (e : ρ[i]? = some s) (hs : s.t = some t) (hr : t.root = true) :
    ∃ l, σ[i]? = some (some (.ref l)) ∧ RT K cm A H (.ref l) t [l] ∧ A l ∧ ∀ o' t', RT K cm A (upd H l o') (.ref l) t' [l] → RS K cm C A Y σ (upd H l o') (ρ.set i (s.w t')) ∧ Lt C A H A (upd H l o') := by
  obtain ⟨F, h1, h2, h3, h4, h5⟩ := R.sl
  obtain ⟨o, e1, r⟩ := h5 i s e
  have hil : i < ρ.length := (List.getElem?_eq_some_iff.mp e).1
  have main : ∃ v, o = some v ∧ RT K cm A H v t (F i) ∧ ∀ l, F i = [l] → (C.P l ∨ C.H0 l = none) ∧ ∀ H2 t', RT K cm A H2 v t' [l] → RSl K cm C A H2 i o (s.w t') [l] := by
    cases s with
    | no => cases hs
    | v t0 =>
      cases hs
      obtain ⟨v, rfl, rt, f⟩ := r
      refine ⟨v, rfl, rt, fun l q => ⟨.inr (f l (by rw [q]; simp)), fun H2 t' rt' => ⟨v, rfl, rt', fun a m => f a (by rw [q]; exact m)⟩⟩⟩
    | pin t0 =>
      cases hs
      obtain ⟨v, rfl, pv, rt, f⟩ := r
      exact ⟨v, rfl, rt, fun l q => ⟨f l (by rw [q]; simp), fun H2 t' rt' => ⟨v, rfl, pv, rt', fun a m => f a (by rw [q]; exact m)⟩⟩⟩
  obtain ⟨v, rfl, rt, hl⟩ := main
  obtain ⟨l, rfl, hF⟩ := rt.root1 hr
  obtain ⟨hP, hnew⟩ := hl l hF
  have hAl := h3 i l (by rw [hF]; simp)
  rw [hF] at rt
  refine ⟨l, e1, rt, hAl.1, fun o' t' rt' => ?_⟩
  have ne : ∀ a, ¬ A a → a ≠ l := fun a n z => n (by rw [z]; exact hAl.1)
  obtain ⟨u0, hu0, hpl⟩ : ∃ u, H l = some u ∧ Pl u := by
    cases t with
    | ls ds => obtain ⟨a, xs, z, _, e2, _⟩ := rt; cases z; exact ⟨_, e2, pl_lst⟩
    | di ds => obtain ⟨a, xs, z, _, e2, _⟩ := rt; cases z; exact ⟨_, e2, pl_dK⟩
    | dt ds => obtain ⟨a, xs, z, _, e2, _⟩ := rt; cases z; exact ⟨_, e2, pl_dT⟩
    | ob c fs => obtain ⟨a, dx, gs, F', z, _, e2, _⟩ := rt; cases z; exact ⟨_, e2, pl_ins⟩
    | _ => cases hr
  have some' : ∀ a, H a ≠ none → upd H l o' a ≠ none := fun a q => by
    by_cases e : a = l
    · rw [e, upd_same]; exact fun z => nomatch z
    · rw [upd_ne e]; exact q
  have lt : Later A H A (upd H l o') := ⟨fun a u e _ n => by rw [upd_ne (ne a n)]; exact e, fun a z => .inl z, some'⟩
  refine ⟨⟨by rw [List.length_set]; exact R.len, ⟨F, h1, h2, h3, fun j ej => ?_, fun j s' ej => ?_⟩, R.out, R.sub, fun a z => some' a (R.dom a z), fun a u e t n => ?_, fun a z => some' a (R.fd a z), tabs_upd R.tb hu0 hpl, fun a z φ e => by
    by_cases w : a = l
    · rw [w, upd_same] at e
      have e := Option.some.inj e
      cases t' with
      | p d => exact absurd rt'.1 (by simp)
      | ls ds => obtain ⟨b, xs, z1, _, e2, _⟩ := rt'; cases z1; rw [upd_same] at e2; rw [e] at e2; cases e2
      | di ds => obtain ⟨b, xs, z1, _, e2, _⟩ := rt'; cases z1; rw [upd_same] at e2; rw [e] at e2; cases e2
      | dt ds => obtain ⟨b, xs, z1, _, e2, _⟩ := rt'; cases z1; rw [upd_same] at e2; rw [e] at e2; cases e2
      | ob c fs => obtain ⟨b, dx, gs, F', z1, _, e2, _⟩ := rt'; cases z1; rw [upd_same] at e2; rw [e] at e2; cases e2
    · rw [upd_ne w] at e; exact R.ne a z φ e⟩, ⟨lt, fun a u z e _ => by rw [upd_ne (fun q => hAl.2.1 (by rw [← q]; exact z))]; exact e⟩⟩
  · refine h4 j ?_
    rw [List.getElem?_eq_none_iff] at ej ⊢
    rw [List.length_set] at ej
    exact ej
  · by_cases hj : j = i
    · subst hj
      rw [List.getElem?_set_self hil] at ej; cases ej
      refine ⟨_, e1, ?_⟩
      rw [hF]
      exact hnew _ t' rt'
    · rw [List.getElem?_set_ne (Ne.symm hj)] at ej
      obtain ⟨u, e2, r2⟩ := h5 j s' ej
      refine ⟨u, e2, r2.keep lt fun a m u q _ => ?_⟩
      rw [upd_ne (fun z => hj (h2 j i a m (by rw [hF, z]; simp)))]
      exact q
  · have : a ≠ l := fun z => by
      subst z
      rcases hP with z | z
      · exact n z
      · rw [z] at e; cases e
    rw [upd_ne this]
    exact R.fr a u e t n
theorem RS.list (R : RS K cm C A Y σ H ρ) {i : Nat} {s : Sl} {ds : List D} (e : ρ[i]? = some s) (hs : s.t = some (.ls ds)) :
    ∃ l xs, σ[i]? = some (some (.ref l)) ∧ H l = some (.lst xs) ∧ RpL K cm A H xs ds ∧ ∀ xs' ds', RpL K cm A H xs' ds' → RS K cm C A Y σ (upd H l (.lst xs')) (ρ.set i (s.w (.ls ds'))) ∧ Lt C A H A (upd H l (.lst xs')) := by
  obtain ⟨l, e1, rt, hA, k⟩ := R.root e hs rfl
  obtain ⟨a, xs, z, _, e2, r⟩ := rt
  cases z
  refine ⟨l, xs, e1, e2, r, fun xs' ds' r' => k _ _ ?_⟩
  have lt : Later A H A (upd H l (.lst xs')) := ⟨fun a u e _ n => by rw [upd_ne (fun z => n (by rw [z]; exact hA))]; exact e, fun a z => .inl z, fun a q => by
    by_cases e : a = l
    · rw [e, upd_same]; exact fun z => nomatch z
    · rw [upd_ne e]; exact q⟩
  exact ⟨l, xs', rfl, rfl, upd_same, r'.later lt⟩
theorem RS.dict (R : RS K cm C A Y σ H ρ) {i : Nat} {s : Sl} {ds : List (DK × D)} (e : ρ[i]? = some s) (hs : s.t = some (.di ds)) :
    ∃ l xs, σ[i]? = some (some (.ref l)) ∧ H l = some (.dK xs) ∧ RpK K cm A H xs ds ∧ ∀ xs' ds', RpK K cm A H xs' ds' → RS K cm C A Y σ (upd H l (.dK xs')) (ρ.set i (s.w (.di ds'))) ∧ Lt C A H A (upd H l (.dK xs')) := by
  obtain ⟨l, e1, rt, hA, k⟩ := R.root e hs rfl
  obtain ⟨a, xs, z, _, e2, r⟩ := rt
  cases z
  refine ⟨l, xs, e1, e2, r, fun xs' ds' r' => k _ _ ?_⟩
  have lt : Later A H A (upd H l (.dK xs')) := ⟨fun a u e _ n => by rw [upd_ne (fun z => n (by rw [z]; exact hA))]; exact e, fun a z => .inl z, fun a q => by
    by_cases e : a = l
    · rw [e, upd_same]; exact fun z => nomatch z
    · rw [upd_ne e]; exact q⟩
  exact ⟨l, xs', rfl, rfl, upd_same, r'.later lt⟩
def putD {κ : Type} [DecidableEq κ] (kvs : List (κ × D)) (k : κ) (v : D) : List (κ × D) :=
  if (kvs.any fun kv => decide (kv.1 = k)) = true then kvs.map (fun kv => if kv.1 = k then (kv.1, v) else kv) else kvs ++ [(k, v)]
theorem RpK.any {k : DK} : ∀ {ks : List (Key × V)} {kvs : List (DK × D)}, RpK K cm A H ks kvs → (ks.any fun kv => decide (kv.1 = k.k)) = kvs.any fun kv => decide (kv.1 = k)
  | _, _, .nil => rfl
  | _, _, .cons (k := k') h r => by
    rw [List.any_cons, List.any_cons, RpK.any r]
    congr 1
    by_cases q : k' = k
    · subst q; simp
    · simp [q]; exact fun z => q (DK.k_inj z)
theorem RpK.repl {k : DK} {v : V} {d : D} (hd : Rp K cm A H v d) : ∀ {ks : List (Key × V)} {kvs : List (DK × D)}, RpK K cm A H ks kvs → RpK K cm A H (ks.map fun kv => if kv.1 = k.k then (kv.1, v) else kv) (kvs.map fun kv => if kv.1 = k then (kv.1, d) else kv)
  | _, _, .nil => .nil
  | _, _, .cons (k := k') h r => by
    rw [List.map_cons, List.map_cons]
    by_cases q : k' = k
    · subst q
      rw [if_pos rfl, if_pos rfl]
      exact .cons hd (RpK.repl hd r)
    · rw [if_neg q, if_neg (fun z => q (DK.k_inj z))]
      exact .cons h (RpK.repl hd r)
theorem RpK.app : ∀ {ks ls : List (Key × V)} {kvs lvs : List (DK × D)}, RpK K cm A H ks kvs → RpK K cm A H ls lvs → RpK K cm A H (ks ++ ls) (kvs ++ lvs)
  | _, _, _, _, .nil, s => s
  | _, _, _, _, .cons h r, s => .cons h (RpK.app r s)
theorem RpK.put {k : DK} {v : V} {d : D} (hd : Rp K cm A H v d) {ks : List (Key × V)} {kvs : List (DK × D)} (r : RpK K cm A H ks kvs) : RpK K cm A H (putK ks k.k v) (putD kvs k d) := by
  unfold putK putD
  rw [r.any]
  split
  · exact r.repl hd
  · exact r.app (.cons hd .nil)
theorem RpK.length : ∀ {ks : List (Key × V)} {kvs : List (DK × D)}, RpK K cm A H ks kvs → ks.length = kvs.length
  | _, _, .nil => rfl
  | _, _, .cons _ r => by simp [r.length]
end

/-! ### methods of one's own list -/
def RM (K : PySem.W.Frag) (cm : Cm) (r : V → List V → Hp → VK → Prop) (m : List D → List D → Option (D × List D)) : Prop := ∀ (A : AS) (H : Hp) (l : Addr) (xs vs : List V) (ds es ds' : List D) (z : D) (Q : VK),
  H l = some (.lst xs) → RpL K cm A H xs ds → RpL K cm A H vs es → m ds es = some (z, ds') → (∀ vz xs', Rp K cm A H vz z → RpL K cm A H xs' ds' → Q vz (upd H l (.lst xs'))) → r (.ref l) vs H Q
def isLs (ρ : Rho) (i : Nat) : Option (Sl × List D) := match ρ[i]? with
  | some (.v (.ls ds)) => some (.v (.ls ds), ds)
  | some (.pin (.ls ds)) => some (.pin (.ls ds), ds)
  | _ => none
theorem isLs_some {ρ : Rho} {i : Nat} {s : Sl} {ds : List D} (h : isLs ρ i = some (s, ds)) : ρ[i]? = some s ∧ s.t = some (.ls ds) := by
  unfold isLs at h
  split at h <;> cases h <;> exact ⟨by assumption, rfl⟩
def eMt (i : Nat) (m : List D → List D → Option (D × List D)) (g : Am) : Em := fun ρ => (isLs ρ i).bind fun _ => (g ρ).bind fun p => (pus p.2 p.1).bind fun es => (isLs p.2 i).bind fun s => (m s.2 es).map fun r => (.val r.1, p.2.set i (s.1.w (.ls r.2)))
section
variable {X : Cx} {cm : Cm} {pos : Pos} {e a b o : Expr} {es : List Expr}
theorem fe_mt {i : Nat} {name : Str} {id : String} {apos cpos : Pos} {r : V → List V → Hp → VK → Prop} {m : List D → List D → Option (D × List D)} {g : Am} (slot : Slot "list" name id) (hty : typeOf (.builtin id) = pure (.type "method_descriptor")) (hm : MtR X id r) (hr : RM X.K cm r m) (ho : PE X o (tVar i)) (ha : FA X cm (e :: es) g)
    (hbase : attributeBase o name X.env (eval o X.env) = eval o X.env := by rfl)
    (hfew : ((backTo cpos (starEach (e :: es) X.env)).all (fun x => !x.1) && (backToKw cpos (keywordEach [] X.env)).all (fun x => x.1.isSome)
      && decide ((e :: es).length + ([] : List Keyword).length + (if ([] : List Keyword).isEmpty then 0 else 1) < 30)) = true := by rfl)
    (hline : (apos.endLine == cpos.line) = true := by rfl) (hs : starEach (e :: es) X.env = (false, eval e X.env) :: starEach es X.env := by rfl) (hplain : (backTo cpos (starEach es X.env)).any (·.1) = false := by rfl) :
    FE X cm (.Call (.Attribute o name apos) (e :: es) [] cpos) (eMt i m g) :=
  (pe_bm PySem.F.plainAttrs_list slot hty hm ho ha hbase hfew hline hs hplain).imp fun σ H Q ⟨C, A, ρ, t, ρ', R, q, k⟩ => by
    unfold eMt at q
    simp only [Option.bind_eq_some_iff, Option.map_eq_some_iff] at q
    obtain ⟨⟨s0, ds0⟩, h0, ⟨rs, ρ1⟩, h1, es', h2, ⟨s, ds⟩, h3, ⟨z, ds'⟩, h4, h5⟩ := q
    cases h5
    obtain ⟨e0, t0⟩ := isLs_some h0
    obtain ⟨l0, xs0, v0, hl0, _⟩ := R.list e0 t0
    refine ⟨_, v0, .inl ⟨rfl, xs0, .inl (.inl hl0)⟩, C, A, ρ, rs, ρ1, R, h1, fun vs H1 A1 l1 R1 w1 => ?_⟩
    obtain ⟨e1, t1⟩ := isLs_some h3
    obtain ⟨l, xs, v1, hl, rl, put⟩ := R1.list e1 t1
    rw [v0] at v1; cases v1
    refine hr A1 H1 l0 xs vs ds es' ds' z Q hl rl (pus_ok R1 w1 h2) h4 fun vz xs' rz rx => ?_
    obtain ⟨R2, l2⟩ := put xs' ds' rx
    exact k vz _ A1 (l1.trans l2) R2 (rz.later l2.l)
def eMt0 (i : Nat) (m : List D → List D → Option (D × List D)) : Em := fun ρ => (isLs ρ i).bind fun s => (m s.2 []).map fun r => (.val r.1, ρ.set i (s.1.w (.ls r.2)))
theorem fe_mt0 {i : Nat} {name : Str} {id : String} {apos cpos : Pos} {r : V → List V → Hp → VK → Prop} {m : List D → List D → Option (D × List D)} (slot : Slot "list" name id) (hty : typeOf (.builtin id) = pure (.type "method_descriptor")) (hm : MtR X id r) (hr : RM X.K cm r m) (ho : PE X o (tVar i))
    (hbase : attributeBase o name X.env (eval o X.env) = eval o X.env := by rfl) (hline : (apos.endLine == cpos.line) = true := by rfl) : FE X cm (.Call (.Attribute o name apos) [] [] cpos) (eMt0 i m) :=
  (pe_bm0 PySem.F.plainAttrs_list slot hty hm ho hbase hline).imp fun σ H Q ⟨C, A, ρ, t, ρ', R, q, k⟩ => by
    unfold eMt0 at q
    simp only [Option.bind_eq_some_iff, Option.map_eq_some_iff] at q
    obtain ⟨⟨s, ds⟩, h3, ⟨z, ds'⟩, h4, h5⟩ := q
    cases h5
    obtain ⟨e1, t1⟩ := isLs_some h3
    obtain ⟨l, xs, v1, hl, rl, put⟩ := R.list e1 t1
    refine ⟨_, v1, .inl ⟨rfl, xs, .inl (.inl hl)⟩, hr A H l xs [] ds [] ds' z Q hl rl .nil h4 fun vz xs' rz rx => ?_⟩
    obtain ⟨R2, l2⟩ := put xs' ds' rx
    exact k vz _ A l2 R2 (rz.later l2.l)
def mApp : List D → List D → Option (D × List D)
  | ds, [d] => if ds.length < big then some (.non, ds ++ [d]) else none
  | _, _ => none
theorem rm_app {K : PySem.W.Frag} : RM K cm rAppend mApp := by
  intro A H l xs vs ds es ds' z Q hl rx re e k
  unfold mApp at e
  split at e
  · split at e
    · rename_i hz
      cases e
      cases re with
      | cons r1 re => cases re; exact ⟨l, xs, _, rfl, rfl, hl, big_lt (by rw [rx.length]; omega), k _ _ .non (rx.app (.one r1))⟩
    · cases e
  · cases e
def mPop : List D → List D → Option (D × List D)
  | ds, [] => ds[ds.length - 1]?.map fun d => (d, ds.dropLast)
  | _, _ => none
theorem rm_pop {K : PySem.W.Frag} : RM K cm rPop mPop := by
  intro A H l xs vs ds es ds' z Q hl rx re e k
  unfold mPop at e
  split at e
  · rw [Option.map_eq_some_iff] at e
    obtain ⟨d, e1, e2⟩ := e
    cases e2
    cases re
    obtain ⟨v, h1, h2⟩ := rx.get e1
    refine ⟨l, xs, v, rfl, rfl, hl, by rw [rx.length]; exact h1, k _ _ h2 ?_⟩
    rw [List.dropLast_eq_take, List.dropLast_eq_take, rx.length]
    exact rx.take _
  · cases e
def mPopAt : List D → List D → Option (D × List D)
  | ds, [.int i] => if 0 ≤ i ∧ i < ds.length ∧ ds.length ≤ big then ds[i.toNat]?.map fun d => (d, ds.eraseIdx i.toNat) else none
  | _, _ => none
theorem rm_popAt {K : PySem.W.Frag} : RM K cm rPopAt mPopAt := by
  intro A H l xs vs ds es ds' z Q hl rx re e k
  unfold mPopAt at e
  split at e
  · split at e
    · rename_i hz
      rw [Option.map_eq_some_iff] at e
      obtain ⟨d, e1, e2⟩ := e
      cases e2
      cases re with
      | cons r1 re =>
        cases re; cases r1
        obtain ⟨v, h1, h2⟩ := rx.get e1
        have hb : big = 1000000 := rfl
        rename_i i
        refine ⟨l, xs, i, i.toNat, v, rfl, rfl, hl, by omega, by omega, ?_, h1, k _ _ h2 (rx.erase _)⟩
        have : ixN xs.length i = some i.toNat := by
          unfold ixN
          rw [if_pos hz.1, if_pos (by rw [rx.length]; exact hz.2.1)]
        exact (ixN_seq this).1
    · cases e
  · cases e

/-! ### items stored -/
def isDi (ρ : Rho) (i : Nat) : Option (Sl × List (DK × D)) := match ρ[i]? with
  | some (.v (.di ds)) => some (.v (.di ds), ds)
  | some (.pin (.di ds)) => some (.pin (.di ds), ds)
  | _ => none
theorem isDi_some {ρ : Rho} {i : Nat} {s : Sl} {ds : List (DK × D)} (h : isDi ρ i = some (s, ds)) : ρ[i]? = some s ∧ s.t = some (.di ds) := by
  unfold isDi at h
  split at h <;> cases h <;> exact ⟨by assumption, rfl⟩
def D.k? : D → Option DK
  | .int n => some (.i n)
  | .str s => some (.s s)
  | _ => none
/-- what a store at a key (or place) makes of a slot -/
def putAt (i : Nat) (ρ : Rho) (k d : D) : Option Rho := match isLs ρ i with
  | some (s, ds) => (match k with
    | .int n => (ixN ds.length n).map fun j => ρ.set i (s.w (.ls (ds.set j d)))
    | _ => none)
  | none => (isDi ρ i).bind fun s => (k.k?).bind fun kk => if s.2.length < big then some (ρ.set i (s.1.w (.di (putD s.2 kk d)))) else none
def hSub (i : Nat) (g : Em) : D → Rho → Option Rho := fun d ρ => (isLs ρ i).bind fun _ => (g ρ).bind fun p => (rd p.2 p.1).bind fun k => (isLs p.2 i).bind fun _ => putAt i p.2 k d
theorem fg_sub {i : Nat} {g : Em} (ho : PE X o (tVar i)) (hi : FE X cm b g)
    (ha : ∀ v, assign (.Subscript o b pos) X.env v = (do
      let ov ← holding [v] (eval o X.env)
      let iv ← holding [v, ov] (eval b X.env)
      standAt pos
      holding [v, ov, iv] (setItem ov iv v)
      release [v, ov, iv] []) := by intro _; rfl) : FG X cm (.Subscript o b pos) [] (hSub i g) := (pg_sub ho hi set_list ha).imp fun v σ H Q ⟨C, A, ρ, d, ρ', R, r, q, k⟩ => by
  simp only [hSub, Option.bind_eq_some_iff] at q
  obtain ⟨⟨s0, ds0⟩, h0, ⟨rv, ρ1⟩, h1, kd, h2, ⟨s1, ds1⟩, h3, h4⟩ := q
  obtain ⟨e0, t0⟩ := isLs_some h0
  obtain ⟨l0, xs0, v0, hl0, _⟩ := R.list e0 t0
  refine ⟨_, v0, C, A, ρ, rv, ρ1, R, h1, fun w H1 A1 l1 R1 w1 => ?_⟩
  obtain ⟨e1, t1⟩ := isLs_some h3
  obtain ⟨l, xs, v1, hl, rl, put⟩ := R1.list e1 t1
  rw [v0] at v1; cases v1
  unfold putAt at h4
  rw [show isLs ρ1 i = some (s1, ds1) from h3] at h4
  dsimp only at h4
  split at h4
  · rw [Option.map_eq_some_iff] at h4
    obtain ⟨j, h5, rfl⟩ := h4
    cases (rd_ok R1 w1 h2).int
    obtain ⟨R2, l2⟩ := put (xs.set j v) (ds1.set j d) (rl.set (r.later l1.l) j)
    exact ⟨l0, xs, _, j, rfl, rfl, hl, by rw [rl.length]; exact h5, k σ _ A1 (l1.trans l2) R2 rfl fun _ _ => rfl⟩
  · cases h4
def sPut (i : Nat) (f g : Em) : Sm := fun ρ => (f ρ).bind fun p => (pu p.2 p.1).bind fun d => if (isLs p.2 i).isSome || (isDi p.2 i).isSome then (g p.2).bind fun q => (rd q.2 q.1).bind fun k => if (isLs p.2 i).isSome == (isLs q.2 i).isSome then (putAt i q.2 k d).map .nx else none else none
theorem fs_put {i : Nat} {f g : Em} {pos' : Pos} (hu : X.A.units + 1 < cLine) (ho : PE X o (tVar i)) (hi : FE X cm b g) (he : FE X cm e f)
    (ha : ∀ v, assign (.Subscript o b pos') X.env v = (do
      let ov ← holding [v] (eval o X.env)
      let iv ← holding [v, ov] (eval b X.env)
      standAt pos'
      holding [v, ov, iv] (setItem ov iv v)
      release [v, ov, iv] []) := by intro _; rfl)
    (hs : swapsWithSole [.Subscript o b pos'] e pos.line X.env = pure false := by rfl) (hw : swappedStores [.Subscript o b pos'] e X.env = pure none := by rfl) (h1 : (assignEach [.Subscript o b pos'] X.env).map (·.2) = [assign (.Subscript o b pos') X.env] := by rfl)
    (hs2 : swapsWith e (some (.Subscript o b pos')) pos.line X.env = pure false := by rfl) : FS X cm (.Assign [.Subscript o b pos'] e pos) (sPut i f g) :=
  ⟨fun pins s σ H D I ⟨C, A, ρ, o', R, q, k⟩ => by
    simp only [sPut, Option.bind_eq_some_iff] at q
    obtain ⟨⟨rv, ρ1⟩, h1', d, h2', q⟩ := q
    cases hb : ((isLs ρ1 i).isSome || (isDi ρ1 i).isSome) with
    | false => rw [hb, if_neg (by simp)] at q; cases q
    | true =>
      rw [hb, if_pos rfl] at q
      simp only [Option.bind_eq_some_iff] at q
      obtain ⟨⟨rk, ρ2⟩, h3', kd, h4', h5'⟩ := q
      split at h5'
      rotate_left
      · cases h5'
      rename_i hsame
      rw [Option.map_eq_some_iff] at h5'
      obtain ⟨ρ3, h6, h7⟩ := h5'
      cases h7
      cases hL : isLs ρ1 i with
      | some sd =>
        obtain ⟨s0, ds0⟩ := sd
        have hg := fg_sub (cm := cm) ho hi ha
        refine (ps_asg he hg hs hw h1).run pins s σ H D I ⟨C, A, ρ, rv, ρ1, R, h1', fun v H1 A1 l1 R1 w1 => ⟨C, A1, ρ1, d, ρ3, R1, pu_ok R1 w1 h2', ?_, fun σ2 H2 A2 l2 R2 _ _ => k σ2 H2 A2 (l1.trans l2) R2⟩⟩
        rw [hL] at hsame
        have hL2 : ∃ s1, isLs ρ2 i = some s1 := by
          cases z : isLs ρ2 i with
          | some s1 => exact ⟨s1, rfl⟩
          | none => rw [z] at hsame; simp at hsame
        obtain ⟨s1, hL2⟩ := hL2
        simp only [hSub, hL, Option.bind_some, h3', h4', hL2]
        exact h6
      | none =>
        rw [hL] at hb hsame
        have hL2 : isLs ρ2 i = none := by
          cases z : isLs ρ2 i with
          | none => rfl
          | some s1 => rw [z] at hsame; simp at hsame
        cases hD : isDi ρ1 i with
        | none => rw [hD] at hb; simp at hb
        | some sd =>
          obtain ⟨s0, ds0⟩ := sd
          obtain ⟨e0, t0⟩ := isDi_some hD
          refine (ps_dput hu ho hi he hs2).run pins s σ H D I ⟨C, A, ρ, rv, ρ1, R, h1', fun v H1 A1 l1 R1 w1 => ?_⟩
          obtain ⟨l0, xs0, v0, hl0, _⟩ := R1.dict e0 t0
          refine ⟨_, v0, C, A1, ρ1, rk, ρ2, R1, h3', fun w H2 A2 l2 R2 w2 => ?_⟩
          unfold putAt at h6
          rw [hL2] at h6
          simp only [Option.bind_eq_some_iff] at h6
          obtain ⟨⟨s1, ds1⟩, h8, kk, h9, h10⟩ := h6
          split at h10
          · rename_i hz
            cases h10
            obtain ⟨e1, t1⟩ := isDi_some h8
            obtain ⟨l, xs, v1, hl, rl, put⟩ := R2.dict e1 t1
            rw [v0] at v1; cases v1
            obtain ⟨R3, l3⟩ := put (putK xs kk.k v) (putD ds1 kk d) (rl.put ((pu_ok R1 w1 h2').later l2.l))
            have hk : w = kV kk.k := by
              cases kd <;> cases h9
              · exact (rd_ok R2 w2 h4').int
              · exact (rd_ok R2 w2 h4').str
            have hz' : ds1.length < big := hz
            exact ⟨l0, _, rfl, .inl ⟨xs, kk.k, hl, hk, big_lt (by rw [rl.length]; omega), rfl⟩, k σ _ A2 ((l1.trans l2).trans l3) R3⟩
          · cases h10⟩
end
end G

/-! Ly12: calls that change one argument; get; enumerate. -/
namespace G
open PySem PySem.Spec L2

/-- the slots of a call's arguments, that at place j being one's own -/
def argO (ρ : Rho) : Nat → List RV → Option Rho
  | 0, .ref i :: rs => (ρ[i]?.bind Sl.t).bind fun t => if t.root then (pus ρ rs).map fun ds => .pin t :: slP ds else none
  | j + 1, r :: rs => (pu ρ r).bind fun d => (argO ρ j rs).map fun ss => .v (.p d) :: ss
  | _, _ => none
def refAt (j : Nat) (rs : List RV) : Option Nat := rs[j]?.bind fun r => match r with
  | .ref i => some i
  | _ => none
/-- what comes back is written back -/
def backO (i j : Nat) (ρ ss : Rho) : Option Rho := match ss[j]? with
  | some (.pin t) => if t.root then ρ[i]?.map fun s => ρ.set i (s.w t) else none
  | _ => none
def nCallO (n j : Nat) (f : Rho → Option (T × Rho)) (g : Am) : Rho → Option (T × Rho) := fun ρ => (g ρ).bind fun p => (argO p.2 j p.1).bind fun ss => (refAt j p.1).bind fun i => if ss.length = n then (f ss).bind fun r => (backO i j p.2 r.2).map fun ρ2 => (r.1, ρ2) else none
section
variable {K : PySem.W.Frag} {cm : Cm} {A A' : AS} {H H' : Hp} {C : Fc} {σ : L2.St} {ρ ρ' : Rho} {Y : List Addr}
theorem argO_ok (R : RS K cm C A [] σ H ρ) : ∀ {j : Nat} {rs : List RV} {vs : List V} {ss : Rho} {i : Nat}, RRVs K cm A H σ vs rs → argO ρ j rs = some ss → refAt j rs = some i →
    ∃ s t l, ρ[i]? = some s ∧ s.t = some t ∧ t.root = true ∧ σ[i]? = some (some (.ref l)) ∧ vs[j]? = some (.ref l) ∧ ss[j]? = some (.pin t) ∧ vs.length = ss.length ∧ ∀ m s', m ≠ j → ss[m]? = some s' → ∃ d v, s' = .v (.p d) ∧ vs[m]? = some v ∧ Rp K cm A H v d
  | 0, [], _, _, _, h, e, _ => by cases e
  | 0, .val d :: rs, _, _, _, h, e, _ => by cases e
  | 0, .ref i0 :: rs, _, ss, i, .cons (a := v) h t, e, e2 => by
    simp only [argO, Option.bind_eq_some_iff] at e
    obtain ⟨tr, h1, h2⟩ := e
    obtain ⟨s, h3, h4⟩ := h1
    obtain rfl : i0 = i := by simpa [refAt] using e2
    split at h2
    rotate_left
    · cases h2
    rename_i hroot
    rw [Option.map_eq_some_iff] at h2
    obtain ⟨ds, h5, rfl⟩ := h2
    have rl := pus_ok R t h5
    obtain ⟨l, g1, _⟩ := R.root h3 h4 hroot
    have hv : σ[i0]? = some (some v) := h
    rw [hv] at g1; cases g1
    refine ⟨s, tr, l, h3, h4, hroot, hv, rfl, rfl, by simp [slP, rl.length], fun m s' hm e3 => ?_⟩
    cases m with
    | zero => exact absurd rfl hm
    | succ m =>
      simp only [slP, List.getElem?_cons_succ, List.getElem?_map, Option.map_eq_some_iff] at e3
      obtain ⟨d, e4, rfl⟩ := e3
      obtain ⟨v', e5, e6⟩ := rl.get e4
      exact ⟨d, v', rfl, by simpa using e5, e6⟩
  | j + 1, [], _, _, _, h, e, _ => by cases e
  | j + 1, r :: rs, _, ss, i, .cons (a := v) h t, e, e2 => by
    simp only [argO, Option.bind_eq_some_iff, Option.map_eq_some_iff] at e
    obtain ⟨d, h1, ss', h2, rfl⟩ := e
    have rp := pu_ok R h h1
    obtain ⟨s, tr, l, g1, g2, g3, g4, g5, g6, g7, g8⟩ := argO_ok R t h2 (show refAt j rs = some i by simpa [refAt] using e2)
    refine ⟨s, tr, l, g1, g2, g3, g4, by simpa using g5, by simpa using g6, by simp [g7], fun m s' hm e3 => ?_⟩
    cases m with
    | zero =>
      cases e3
      exact ⟨d, v, rfl, rfl, rp⟩
    | succ m =>
      obtain ⟨d', v', q1, q2, q3⟩ := g8 m s' (by omega) (by simpa using e3)
      exact ⟨d', v', q1, by simpa using q2, q3⟩
theorem RS.argsO {vs : List V} {ss : Rho} {i j : Nat} {s : Sl} {t : T} {l : Addr} (R : RS K cm C A [] σ H ρ) (h1 : ρ[i]? = some s) (h2 : s.t = some t) (h3 : t.root = true) (h4 : σ[i]? = some (some (.ref l))) (h5 : vs[j]? = some (.ref l)) (h6 : ss[j]? = some (.pin t)) (h7 : vs.length = ss.length)
    (h8 : ∀ m s', m ≠ j → ss[m]? = some s' → ∃ d v, s' = .v (.p d) ∧ vs[m]? = some v ∧ Rp K cm A H v d) : RS K cm (cIn H (fun a => a = l) A vs) A [] (vs.map some) H ss := by
  obtain ⟨l', g1, rt, hA, _⟩ := R.root h1 h2 h3
  rw [h4] at g1; cases g1
  refine ⟨by rw [List.length_map, h7], ⟨fun m => if m = j then [l] else [], fun m => ?_, fun m k a q q' => ?_, fun m a q => ?_, fun m q => ?_, fun m s' q => ?_⟩, fun a z => z.1, fun a z => ?_, R.dom, fun _ _ e _ _ => e, fun _ e => e, R.tb, R.ne⟩
  · dsimp only; split <;> simp
  · dsimp only at q q'
    by_cases e1 : m = j <;> by_cases e2 : k = j
    · rw [e1, e2]
    · rw [if_neg e2] at q'; cases q'
    · rw [if_neg e1] at q; cases q
    · rw [if_neg e1] at q; cases q
  · dsimp only at q
    split at q
    · obtain rfl : a = l := by simpa using q
      exact ⟨hA, fun z => z.2 rfl, fun z => nomatch z⟩
    · cases q
  · dsimp only
    split
    · rename_i e; rw [e, h6] at q; cases q
    · rfl
  · dsimp only
    by_cases hm : m = j
    · subst hm
      rw [h6] at q; cases q
      refine ⟨some (.ref l), by rw [List.getElem?_map, h5]; rfl, ?_⟩
      rw [if_pos rfl]
      exact ⟨.ref l, rfl, h5, rt, fun a z => .inl (show a = l by simpa using z)⟩
    · obtain ⟨d, v, rfl, e1, r⟩ := h8 m s' hm q
      refine ⟨some v, by rw [List.getElem?_map, e1]; rfl, ?_⟩
      rw [if_neg hm]
      exact ⟨v, rfl, RT.pure r, fun a z => nomatch z⟩
  · by_cases e : a = l
    · exact .inr (.inl e)
    · exact .inl ⟨z, e⟩
theorem RS.afterO {vs : List V} {ss : Rho} {σ' : L2.St} {i j : Nat} {s : Sl} {t t' : T} {l : Addr} {F : List Addr} (R : RS K cm C A [] σ H ρ) (h1 : ρ[i]? = some s) (h2 : s.t = some t) (h3 : t.root = true) (h4 : σ[i]? = some (some (.ref l))) (h5 : vs[j]? = some (.ref l))
    (lt : Lt (cIn H (fun a => a = l) A vs) A H A' H') (R' : RS K cm (cIn H (fun a => a = l) A vs) A' F σ' H' ss) (hF : ∀ a ∈ F, H a = none ∧ A' a ∧ ¬ (cIn H (fun a => a = l) A vs).A0 a) (h6 : ss[j]? = some (.pin t')) (h7 : t'.root = true) :
    Lt C A H A' H' ∧ RS K cm C A' F σ H' (ρ.set i (s.w t')) ∧ ∀ a ∈ F, C.H0 a = none ∧ A' a ∧ ¬ C.A0 a := by
  obtain ⟨Fs, g1, g2, g3, g4, g5⟩ := R.sl
  obtain ⟨Gs, k1, k2, k3, k4, k5⟩ := R'.sl
  have hil : i < ρ.length := (List.getElem?_eq_some_iff.mp h1).1
  -- the slot's own address
  obtain ⟨o, e1, r1⟩ := g5 i s h1
  rw [h4] at e1; cases e1
  have hFi : Fs i = [l] ∧ (C.P l ∨ C.H0 l = none) := by
    cases s with
    | no => cases h2
    | v t0 =>
      cases h2
      obtain ⟨v, e, rt, f⟩ := r1
      cases e
      obtain ⟨l', e, q⟩ := rt.root1 h3
      cases e
      exact ⟨q, .inr (f l (by rw [q]; simp))⟩
    | pin t0 =>
      cases h2
      obtain ⟨v, e, _, rt, f⟩ := r1
      cases e
      obtain ⟨l', e, q⟩ := rt.root1 h3
      cases e
      exact ⟨q, f l (by rw [q]; simp)⟩
  obtain ⟨hFi, hP⟩ := hFi
  have hlA := g3 i l (by rw [hFi]; simp)
  have hl0 : ¬ C.A0 l := hlA.2.1
  -- the tree that has come back
  obtain ⟨o', q1, v', q2, q3, rt', _⟩ := k5 j _ h6
  have hv' : v' = .ref l := by
    have : (cIn H (fun a => a = l) A vs).pv j = some (.ref l) := h5
    rw [this] at q3; cases q3; rfl
  subst hv'
  obtain ⟨l', e, hG⟩ := rt'.root1 h7
  cases e
  rw [hG] at rt'
  have hl' := k3 j l (by rw [hG]; simp)
  have kept : ∀ a o, A a → a ≠ l → H a = some o → NT o → H' a = some o := fun a o z n e t => lt.o a o ⟨z, n⟩ e t
  have inA : ∀ a, A a → A' a := fun a z => by
    by_cases e : a = l
    · rw [e]; exact hl'.1
    · exact R'.out a ⟨z, e⟩
  refine ⟨⟨lt.l, fun a o z e t => kept a o (R.out a z) (fun q => hl0 (by rw [← q]; exact z)) e t⟩, ?_, fun a m => ⟨R.new0 (hF a m).1, (hF a m).2.1, fun z => R.dom a (R.out a z) (hF a m).1⟩⟩
  refine ⟨by rw [List.length_set]; exact R.len, ⟨Fs, g1, g2, fun k a m => ⟨inA a (g3 k a m).1, (g3 k a m).2.1, fun z => R.dom a (g3 k a m).1 (hF a z).1⟩, fun k e => ?_, fun k s' e => ?_⟩, fun a z => inA a (R.out a z), fun a z => ?_, R'.dom, fun a o e t n => ?_, fun a z => R'.fd a (R.fd a z), R'.tb, R'.ne⟩
  · refine g4 k ?_
    rw [List.getElem?_eq_none_iff] at e ⊢
    rw [List.length_set] at e
    exact e
  · by_cases hk : k = i
    · subst hk
      rw [List.getElem?_set_self hil] at e; cases e
      refine ⟨_, h4, ?_⟩
      rw [hFi]
      cases s with
      | no => cases h2
      | v t0 =>
        obtain ⟨v, e, _, f⟩ := r1
        cases e
        exact ⟨_, rfl, rt', fun a m => f a (by rw [hFi]; exact m)⟩
      | pin t0 =>
        obtain ⟨v, e, pv, _, f⟩ := r1
        cases e
        exact ⟨_, rfl, pv, rt', fun a m => f a (by rw [hFi]; exact m)⟩
    · rw [List.getElem?_set_ne (Ne.symm hk)] at e
      obtain ⟨u, e2, r2⟩ := g5 k s' e
      refine ⟨u, e2, r2.keep lt.l fun a m u q t => kept a u (g3 k a m).1 (fun z => hk (g2 k i a m (by rw [hFi, z]; simp))) q t⟩
  · rcases R'.sub a z with q | q | q
    · exact R.sub a q.1
    · rw [show a = l from q]; exact .inr hP
    · exact .inr (.inr (R.new0 q))
  · have : a ≠ l := fun z => by
      subst z
      rcases hP with z | z
      · exact n z
      · rw [z] at e; cases e
    exact R'.fr a o (R.fr a o e t n) t this
end
section
variable {X : Cx} {cm : Cm} {pos p : Pos} {e : Expr} {es : List Expr}
theorem tN_callO {K : PySem.W.Frag} {n j : Nat} {m : Rho → Option (T × Rho)} {g : Am} {σ : L2.St} {H : Hp} {Q : VK} {E : XK} (h : tN K cm (nCallO n j m g) σ H Q) : tCall (spG K cm n m) [] E (tAs K cm g) σ H Q := by
  obtain ⟨C, A, ρ, t, ρ', R, q, kk⟩ := h
  unfold nCallO at q
  simp only [Option.bind_eq_some_iff] at q
  obtain ⟨⟨rs, ρ1⟩, h1, ss, h2, i, h3, h4⟩ := q
  split at h4
  rotate_left
  · cases h4
  rename_i hn
  simp only [Option.bind_eq_some_iff, Option.map_eq_some_iff] at h4
  obtain ⟨⟨t', ss'⟩, h5, ρ2, h6, h7⟩ := h4
  cases h7
  unfold backO at h6
  split at h6
  rotate_left
  · cases h6
  rename_i tb hb
  split at h6
  rotate_left
  · cases h6
  rename_i hroot
  rw [Option.map_eq_some_iff] at h6
  obtain ⟨s0, h8, rfl⟩ := h6
  refine ⟨C, A, ρ, rs, ρ1, R, h1, fun vs H1 A1 l1 R1 w1 => ?_⟩
  show spG K cm n m (vs ++ []) H1 Q E
  rw [List.append_nil]
  obtain ⟨s, tr, l, g1, g2, g3, g4, g5, g6, g7, g8⟩ := argO_ok R1 w1 h2 h3
  rw [g1] at h8; cases h8
  refine ⟨by rw [g7, hn], _, A1, ss, _, ss', R1.argsO g1 g2 g3 g4 g5 g6 g7 g8, h5, fun v H' A' F σ' lt R' rt hnd hF => ?_⟩
  obtain ⟨l2, R2, hF2⟩ := R1.afterO g1 g2 g3 g4 g5 lt R' hF hb hroot
  exact kk v H' A' F (l1.trans l2) R2 rt hnd hF2
theorem fn_callO {ps : List Str} {k j0 j n : Nat} {x : Str} {m : Rho → Option (T × Rho)} {g : Am} (D : Dg X.prog X.w X.K X.mg X.base cm k x ps m) (hr : Room j X.A) (hk : k ≤ j) (hg : Gl X x) (ha : FA X cm (e :: es) g) (hn : ps.length = n := by rfl)
    (hdb : (x == ("__debug__" : Str)) = false := by decide) (he : starEach (e :: es) X.env = (false, eval e X.env) :: starEach es X.env := by rfl) (hpl : (backTo pos (starEach es X.env)).any (·.1) = false := by rfl) :
    FN X cm (.Call (.Name x p) (e :: es) [] pos) (nCallO n j0 m g) := by
  subst hn
  obtain ⟨f, fd, F, hm, hkp, hb⟩ := D
  exact (pe_call F (hr.mono hk) hg hm hkp hb .nil pass0 ha hdb he hpl).imp fun σ H Q q => tN_callO q
end
end G

/-! Ly13: dicts walked (locked meanwhile), get; enumerate. -/
namespace G
open PySem PySem.Spec L2

/-- a slot's own thing laid down: it changes no more -/
def frzS (i : Nat) (ρ : Rho) : Option Rho := match ρ[i]? with
  | some (.v t) => some (ρ.set i (.v (.p t.d)))
  | _ => none
section
variable {K : PySem.W.Frag} {cm : Cm} {A A' : AS} {H H' : Hp} {C : Fc} {σ : L2.St} {ρ ρ' : Rho} {Y : List Addr}
theorem RS.frz {i : Nat} (R : RS K cm C A [] σ H ρ) (e : frzS i ρ = some ρ') : ∃ A', Lt C A H A' H ∧ RS K cm C A' [] σ H ρ' := by
  unfold frzS at e
  split at e
  rotate_left
  · cases e
  rename_i t q
  cases e
  obtain ⟨F, h1, h2, h3, h4, h5⟩ := R.sl
  have hil : i < ρ.length := (List.getElem?_eq_some_iff.mp q).1
  obtain ⟨o, e1, v, rfl, rt, f⟩ := h5 i _ q
  have lt : Lt C A H (fun a => A a ∧ a ∉ F i) H := (Lt.refl A H).less fun a z => z.1
  refine ⟨_, lt, by rw [List.length_set]; exact R.len, ⟨fun j => if j = i then [] else F j, fun j => ?_, fun j k a m m' => ?_, fun j a m => ?_, fun j ej => ?_, fun j s ej => ?_⟩, fun a z => ⟨R.out a z, fun m => (h3 i a m).2.1 z⟩, fun a z => R.sub a z.1, fun a z => R.dom a z.1, R.fr, R.fd, R.tb, fun a z => R.ne a z.1⟩
  · dsimp only; split
    · exact .nil
    · exact h1 j
  · dsimp only at m m'
    split at m <;> split at m' <;> first | cases m | cases m' | exact h2 j k a m m'
  · dsimp only at m
    split at m
    · cases m
    · rename_i hj
      exact ⟨⟨(h3 j a m).1, fun z => hj (h2 j i a m z)⟩, (h3 j a m).2.1, fun z => nomatch z⟩
  · dsimp only
    split
    · rfl
    · rename_i hj
      rw [List.getElem?_set_ne (Ne.symm hj)] at ej
      exact h4 j ej
  · dsimp only
    by_cases hj : j = i
    · subst hj
      rw [List.getElem?_set_self hil] at ej; cases ej
      refine ⟨_, e1, ?_⟩
      rw [if_pos rfl]
      exact ⟨v, rfl, RT.pure (rt.frz lt.l fun a m z => z.2 m), fun a m => nomatch m⟩
    · rw [if_neg hj]
      rw [List.getElem?_set_ne (Ne.symm hj)] at ej
      obtain ⟨u, e2, r⟩ := h5 j s ej
      exact ⟨u, e2, r.keep lt.l fun a _ o q => fun _ => q⟩
/-! a dict locked, unlocked -/
structure Sw (d : Addr) (ks : List (Key × V)) (H H2 : Hp) : Prop where
  a : Rd H d (.dK ks)
  b : Rd H2 d (.dK ks)
  e : ∀ x, x ≠ d → H2 x = H x
theorem rd_uniq {d : Addr} {u u' : HO} (h : Rd H d u) (h' : Rd H d u') (n : ∀ o x, u ≠ .frz o x) (n' : ∀ o x, u' ≠ .frz o x) : u = u' := by
  rcases h with h | ⟨o, h⟩ <;> rcases h' with h' | ⟨o', h'⟩ <;> rw [h] at h' <;> injection h' with h'
  · exact absurd h' (n _ _)
  · exact absurd h'.symm (n' _ _)
  · injection h'
theorem Sw.rd {d : Addr} {ks : List (Key × V)} {H2 : Hp} (s : Sw d ks H H2) {x : Addr} {u : HO} (h : Rd H x u) (n : ∀ o x, u ≠ .frz o x) : Rd H2 x u := by
  by_cases q : x = d
  · subst q
    have := rd_uniq h s.a n fun _ _ z => nomatch z
    rw [this]; exact s.b
  · unfold Rd
    rw [s.e x q]; exact h
theorem Sw.at {d : Addr} {ks : List (Key × V)} {H2 : Hp} (s : Sw d ks H H2) {x : Addr} {u : HO} (h : H x = some u) (n : ∀ o x, u ≠ .frz o x) (n2 : ∀ ks, u ≠ .dK ks) : H2 x = some u := by
  by_cases q : x = d
  · subst q
    exact absurd (rd_uniq (.inl h) s.a n fun _ _ z => nomatch z) (n2 ks)
  · rw [s.e x q]; exact h
theorem SL.sw {d : Addr} {ks : List (Key × V)} {H2 : Hp} (s : Sw d ks H H2) {a : Addr} {xs : List V} (h : SL K A H a xs) : SL K A H2 a xs := h.imp_left fun h => ⟨s.rd h.1 (fun _ _ z => nomatch z), h.2⟩
theorem ST.sw {d : Addr} {ks : List (Key × V)} {H2 : Hp} (s : Sw d ks H H2) {a : Addr} {xs : List V} (h : ST K A H a xs) : ST K A H2 a xs := h.imp_left fun h => ⟨s.at h.1 (fun _ _ z => nomatch z) (fun _ z => nomatch z), h.2⟩
mutual
theorem Rp.sw {d : Addr} {ks : List (Key × V)} {H2 : Hp} (s : Sw d ks H H2) : ∀ {v : V} {e : D}, Rp K cm A H v e → Rp K cm A H2 v e
  | _, _, .non => .non
  | _, _, .bl b => .bl b
  | _, _, .int i => .int i
  | _, _, .str x => .str x
  | _, _, .tup h r => .tup (h.sw s) (RpL.sw s r)
  | _, _, .lst h r => .lst (h.sw s) (RpL.sw s r)
  | _, _, .dic h n r => .dic (s.rd h fun _ _ z => nomatch z) n (RpK.sw s r)
  | _, _, .dit h n r => .dit (s.rd h fun _ _ z => nomatch z) n (RpU.sw s r)
  | _, _, .obj h n r => .obj (s.at h (fun _ _ z => nomatch z) fun _ z => nomatch z) n (RpF.sw s r)
  | _, _, .fn n => .fn n
theorem RpL.sw {d : Addr} {ks : List (Key × V)} {H2 : Hp} (s : Sw d ks H H2) : ∀ {v : List V} {e : List D}, RpL K cm A H v e → RpL K cm A H2 v e
  | _, _, .nil => .nil
  | _, _, .cons h r => .cons (Rp.sw s h) (RpL.sw s r)
theorem RpK.sw {d : Addr} {ks : List (Key × V)} {H2 : Hp} (s : Sw d ks H H2) : ∀ {v : List (Key × V)} {e : List (DK × D)}, RpK K cm A H v e → RpK K cm A H2 v e
  | _, _, .nil => .nil
  | _, _, .cons h r => .cons (Rp.sw s h) (RpK.sw s r)
theorem RpU.sw {d : Addr} {ks : List (Key × V)} {H2 : Hp} (s : Sw d ks H H2) : ∀ {v : List (List Key × V)} {e : List (List DK × D)}, RpU K cm A H v e → RpU K cm A H2 v e
  | _, _, .nil => .nil
  | _, _, .cons h r => .cons (Rp.sw s h) (RpU.sw s r)
theorem RpF.sw {d : Addr} {ks : List (Key × V)} {H2 : Hp} (s : Sw d ks H H2) : ∀ {v : List (Str × V)} {e : List (Str × D)}, RpF K cm A H v e → RpF K cm A H2 v e
  | _, _, .nil => .nil
  | _, _, .cons h r => .cons (Rp.sw s h) (RpF.sw s r)
end
mutual
theorem RT.sw {d : Addr} {ks : List (Key × V)} {H2 : Hp} (s : Sw d ks H H2) : ∀ {v : V} {t : T} {F : List Addr}, d ∉ F → RT K cm A H v t F → RT K cm A H2 v t F
  | v, .p e, F, _, h => ⟨h.1, h.2.sw s⟩
  | v, .ls ds, F, n, h => by
    obtain ⟨b, xs, e1, rfl, e, r⟩ := h
    exact ⟨b, xs, e1, rfl, by rw [s.e b (fun z => n (by simp [z]))]; exact e, r.sw s⟩
  | v, .di ds, F, n, h => by
    obtain ⟨b, xs, e1, rfl, e, r⟩ := h
    exact ⟨b, xs, e1, rfl, by rw [s.e b (fun z => n (by simp [z]))]; exact e, r.sw s⟩
  | v, .dt ds, F, n, h => by
    obtain ⟨b, xs, e1, rfl, e, r⟩ := h
    exact ⟨b, xs, e1, rfl, by rw [s.e b (fun z => n (by simp [z]))]; exact e, r.sw s⟩
  | v, .ob c fs, F, n, h => by
    obtain ⟨b, dx, gs, F', e1, rfl, e, r⟩ := h
    exact ⟨b, dx, gs, F', e1, rfl, by rw [s.e b (fun z => n (by simp [z]))]; exact e, RTs.sw s (fun z => n (by simp [z])) r⟩
theorem RTs.sw {d : Addr} {ks : List (Key × V)} {H2 : Hp} (s : Sw d ks H H2) : ∀ {gs : List (Str × V)} {fs : List (Str × T)} {F : List Addr}, d ∉ F → RTs K cm A H gs fs F → RTs K cm A H2 gs fs F
  | gs, [], F, _, h => h
  | gs, (f, t) :: r, F, n, h => by
    obtain ⟨v, gs', F1, F2, e1, rfl, h1, h2⟩ := h
    rw [List.mem_append, not_or] at n
    exact ⟨v, gs', F1, F2, e1, rfl, RT.sw s n.1 h1, RTs.sw s n.2 h2⟩
end
/-- the entry's heap with the dict as it is meanwhile -/
def Fc.sw (C : Fc) (d : Addr) (o : HO) : Fc := { C with H0 := fun a => match C.H0 a with
  | none => none
  | some u => if a = d then some o else some u }
theorem sw_none {d a : Addr} {o : HO} : (C.sw d o).H0 a = none ↔ C.H0 a = none := by
  unfold Fc.sw
  dsimp only
  cases q : C.H0 a with
  | none => simp
  | some u => by_cases e : a = d <;> simp [e]
theorem RSl.sw {d : Addr} {ks : List (Key × V)} {H2 : Hp} {o : HO} (s : Sw d ks H H2) {i : Nat} {u : Option V} {t : Sl} {F : List Addr} (n : d ∉ F) (h : RSl K cm C A H i u t F) : RSl K cm (C.sw d o) A H2 i u t F := by
  cases t with
  | no => exact h
  | v t => obtain ⟨v, e, r, f⟩ := h; exact ⟨v, e, r.sw s n, fun a m => sw_none.mpr (f a m)⟩
  | pin t => obtain ⟨v, e, e2, r, f⟩ := h; exact ⟨v, e, e2, r.sw s n, fun a m => (f a m).imp id sw_none.mpr⟩
theorem RSl.unsw {d : Addr} {ks : List (Key × V)} {H2 : Hp} {o : HO} (s : Sw d ks H H2) {i : Nat} {u : Option V} {t : Sl} {F : List Addr} (n : d ∉ F) (h : RSl K cm (C.sw d o) A H i u t F) : RSl K cm C A H2 i u t F := by
  cases t with
  | no => exact h
  | v t => obtain ⟨v, e, r, f⟩ := h; exact ⟨v, e, r.sw s n, fun a m => sw_none.mp (f a m)⟩
  | pin t => obtain ⟨v, e, e2, r, f⟩ := h; exact ⟨v, e, e2, r.sw s n, fun a m => (f a m).imp id sw_none.mp⟩
theorem Sw.some' {d : Addr} {ks : List (Key × V)} {H2 : Hp} (s : Sw d ks H H2) (a : Addr) (h : H a ≠ none) : H2 a ≠ none := by
  by_cases q : a = d
  · subst q
    rcases s.b with z | ⟨o, z⟩ <;> rw [z] <;> exact fun z => nomatch z
  · rw [s.e a q]; exact h
theorem tabs_sw {T : List (Addr × Str)} {d : Addr} {ks : List (Key × V)} {o : HO} (t : LamX.Tabs T H) (h : Rd H d (.dK ks)) : LamX.Tabs T (upd H d o) := by
  rcases h with h | ⟨ob, h⟩
  · exact tabs_upd t h pl_dK
  · exact tabs_upd t h pl_frz
theorem RS.sw {d : Addr} {ks : List (Key × V)} {o : HO} (R : RS K cm C A Y σ H ρ) (s : Sw d ks H (upd H d o)) (n : ¬ A d) : RS K cm (C.sw d o) A Y σ (upd H d o) ρ := by
  obtain ⟨F, h1, h2, h3, h4, h5⟩ := R.sl
  refine ⟨R.len, ⟨F, h1, h2, h3, h4, fun i t e => ?_⟩, R.out, fun a z => (R.sub a z).imp_right fun q => q.imp_right sw_none.mpr, fun a z => s.some' a (R.dom a z), fun a u e tn np => ?_, fun a z => s.some' a (R.fd a fun q => z (sw_none.mpr q)), tabs_sw R.tb s.a, fun a z φ e => R.ne a z φ (by rw [upd_ne (fun w => n (by rw [← w]; exact z))] at e; exact e)⟩
  · obtain ⟨u, e1, r⟩ := h5 i t e
    exact ⟨u, e1, r.sw s fun m => n (h3 i d m).1⟩
  · change (match C.H0 a with | none => none | some u => if a = d then some o else some u) = some u at e
    cases q : C.H0 a with
    | none => rw [q] at e; cases e
    | some u' =>
      rw [q] at e
      dsimp only at e
      by_cases z : a = d
      · rw [if_pos z] at e
        rw [z, upd_same]; exact e
      · rw [if_neg z] at e
        cases e
        rw [upd_ne z]; exact R.fr a _ q tn np
theorem RS.unsw {d : Addr} {ks : List (Key × V)} {o o1 : HO} (R : RS K cm (C.sw d o) A Y σ H ρ) (s : Sw d ks H (upd H d o1)) (n : ¬ A d) (h0 : ∀ x, C.H0 d = some x → NT x → ¬ C.P d → x = o1) : RS K cm C A Y σ (upd H d o1) ρ := by
  obtain ⟨F, h1, h2, h3, h4, h5⟩ := R.sl
  refine ⟨R.len, ⟨F, h1, h2, h3, h4, fun i t e => ?_⟩, R.out, fun a z => (R.sub a z).imp_right fun q => q.imp_right sw_none.mp, fun a z => s.some' a (R.dom a z), fun a u e tn np => ?_, fun a z => s.some' a (R.fd a fun q => z (sw_none.mp q)), tabs_sw R.tb s.a, fun a z φ e => R.ne a z φ (by rw [upd_ne (fun w => n (by rw [← w]; exact z))] at e; exact e)⟩
  · obtain ⟨u, e1, r⟩ := h5 i t e
    exact ⟨u, e1, r.unsw s fun m => n (h3 i d m).1⟩
  · by_cases z : a = d
    · subst z
      rw [upd_same, h0 u e tn np]
    · rw [upd_ne z]
      refine R.fr a u ?_ tn np
      show (match C.H0 a with | none => none | some u => if a = d then some o else some u) = some u
      rw [e]
      exact if_neg z
theorem Lt.unsw {d : Addr} {ks : List (Key × V)} {o o1 : HO} (h1 : H d = some o1) (n : ¬ A d) (n0 : ¬ C.A0 d) (l : Lt (C.sw d o) A (upd H d o) A' H') : Lt C A H A' (upd H' d o1) := by
  refine ⟨⟨fun a u e tn na => ?_, fun a z => (l.l.nw a z).imp id fun e => ?_, fun a e => ?_⟩, fun a u z e tn => ?_⟩
  · by_cases q : a = d
    · rw [q] at e ⊢; rw [upd_same, ← h1, e]
    · rw [upd_ne q]; exact l.l.st a u (by rw [upd_ne q]; exact e) tn na
  · by_cases q : a = d
    · rw [q, upd_same] at e; cases e
    · rw [upd_ne q] at e; exact e
  · by_cases q : a = d
    · rw [q, upd_same]; exact fun z => nomatch z
    · rw [upd_ne q]; exact l.l.dm a (by rw [upd_ne q]; exact e)
  · have q : a ≠ d := fun w => n0 (by rw [← w]; exact z)
    rw [upd_ne q]; exact l.o a u z (by rw [upd_ne q]; exact e) tn
end

/-! ### the keys of a dict in a slot -/
def keysD (kvs : List (DK × D)) : List D := kvs.map fun kv => kv.1.d
/-- the dict in a slot, laid down if it is one's own -/
def dicS (i : Nat) (ρ : Rho) : Option (List (DK × D) × Rho) := match ρ[i]? with
  | some (.v (.p (.dic kvs))) => some (kvs, ρ)
  | some (.v (.di kvs)) => (frzS i ρ).map fun ρ' => (kvs, ρ')
  | _ => none
def iKey (i : Nat) : Im := fun ρ => (dicS i ρ).map fun p => (keysD p.1, p.2)
theorem dicS_ok {K : PySem.W.Frag} {cm : Cm} {A : AS} {H : Hp} {C : Fc} {σ : L2.St} {ρ ρ1 : Rho} {i : Nat} {kvs : List (DK × D)} (R : RS K cm C A [] σ H ρ) (e : dicS i ρ = some (kvs, ρ1)) :
    ∃ A1 d ks, Lt C A H A1 H ∧ RS K cm C A1 [] σ H ρ1 ∧ σ[i]? = some (some (.ref d)) ∧ Rd H d (.dK ks) ∧ ¬ A1 d ∧ RpK K cm A1 H ks kvs := by
  have pure : ∀ {A1 : AS} {ρ1 : Rho}, RS K cm C A1 [] σ H ρ1 → ρ1[i]? = some (.v (.p (.dic kvs))) → ∃ d ks, σ[i]? = some (some (.ref d)) ∧ Rd H d (.dK ks) ∧ ¬ A1 d ∧ RpK K cm A1 H ks kvs := fun {A1 ρ1} R1 q => by
    obtain ⟨F, _, _, _, _, h5⟩ := R1.sl
    obtain ⟨o, e1, v, rfl, rt, _⟩ := h5 i _ q
    obtain ⟨_, rp⟩ := rt
    cases rp with
    | dic h n r => exact ⟨_, _, e1, h, n, r⟩
  unfold dicS at e
  split at e
  · rename_i q
    cases e
    obtain ⟨d, ks, h⟩ := pure R q
    exact ⟨A, d, ks, .refl A H, R, h⟩
  · rename_i q
    rw [Option.map_eq_some_iff] at e
    obtain ⟨ρ2, e2, e3⟩ := e
    cases e3
    obtain ⟨A1, l, R1⟩ := R.frz e2
    have q2 : ρ1[i]? = some (.v (.p (.dic kvs))) := by
      unfold frzS at e2
      rw [q] at e2
      cases e2
      rw [List.getElem?_set_self (List.getElem?_eq_some_iff.mp q).1, T.d]
    obtain ⟨d, ks, h⟩ := pure R1 q2
    exact ⟨A1, d, ks, l, R1, h⟩
  · cases e
theorem RpK.at {K : PySem.W.Frag} {cm : Cm} {A : AS} {H : Hp} : ∀ {ks : List (Key × V)} {kvs : List (DK × D)} {i : Nat} {k : DK} {d : D}, RpK K cm A H ks kvs → kvs[i]? = some (k, d) → ∃ v, ks[i]? = some (k.k, v) ∧ Rp K cm A H v d
  | _, _, _, _, _, .nil, e => by simp at e
  | _, _, 0, _, _, .cons h _, e => by
    simp at e
    obtain ⟨rfl, rfl⟩ := e
    exact ⟨_, rfl, h⟩
  | _, _, i + 1, _, _, .cons _ r, e => by
    obtain ⟨v, h1, h2⟩ := RpK.at (i := i) r (by simpa using e)
    exact ⟨v, by simpa using h1, h2⟩
theorem kV_d {K : PySem.W.Frag} {cm : Cm} {A : AS} {H : Hp} (k : DK) : Rp K cm A H (kV k.k) k.d := by
  cases k with
  | i n => exact .int n
  | s t => exact .str t
theorem it_keys {K : PySem.W.Frag} {cm : Cm} {d : Addr} {od : Obj} {ks : List (Key × V)} {kvs : List (DK × D)} : ItOk K cm (Itk d od ks) (fun A H => H d = some (.frz od (.dK ks)) ∧ ¬ A d ∧ RpK K cm A H ks kvs) (keysD kvs) where
  stay := fun A H A' H' ⟨h, n, r⟩ l => ⟨l.st _ _ h pl_frz.1 n, (l.rd (.inl h) n).2, r.later l⟩
  go := fun A H i ⟨h, _, r⟩ q => ⟨h, by rw [r.length]; simpa [keysD] using q⟩
  yld := fun A H i x H' e ⟨h, _, r⟩ _ q hy => by
    obtain ⟨rfl, k, v, e1, rfl⟩ := hy
    simp only [keysD, List.getElem?_map, Option.map_eq_some_iff] at q
    obtain ⟨⟨k', d'⟩, q1, rfl⟩ := q
    obtain ⟨v', e2, _⟩ := r.at q1
    rw [e1] at e2; cases e2
    exact ⟨.refl _, kV_d k'⟩
  stop := fun A H i ⟨h, _, r⟩ q => ⟨h, by rw [r.length]; simpa [keysD] using q⟩
section
variable {X : Cx} {cm : Cm} {pos : Pos} {elt tg iter e c : Expr} {ifs : List Expr}
theorem fn_lcK {i : Nat} {own : List (Str × Nat)} {scope : Scope} {is : List Nat} {h : D → Rho → Option Rho} {g : Bm} {el : Em} (hc : X.calm = true) (hN : X.N.Nodup) (ho : PE X iter (tVar i)) (ok : BlkOk X.N X.env.scope scope own)
    (hg : ∀ (s : Shared) (H : Hp) (C : Addr) (cl : List (Str × Addr)) (fp : List Addr), FG (X.blk s H scope (compEnvC scope cl C X.env) fp) cm tg is h) (ht : ∀ (s : Shared) (H : Hp) (C : Addr) (cl : List (Str × Addr)) (fp : List Addr), FTs (X.blk s H scope (compEnvC scope cl C X.env) fp) cm ifs g)
    (he : ∀ (s : Shared) (H : Hp) (C : Addr) (cl : List (Str × Addr)) (fp : List Addr), FE (X.blk s H scope (compEnvC scope cl C X.env) fp) cm elt el) (hsub : ∀ i ∈ is, i ∈ own.map (·.2)) (hs : ∀ x, foldedSetIterable iter X.env x = pure x := by intro _; rfl) :
    FN X cm (.ListComp elt [⟨tg, iter, ifs, 0⟩] scope pos) (nLc (own.map (·.2)) (iKey i) h g el) :=
  ((pe_lock (pe_lc hc hN (pi_keys ho) ok hg ht he hs)).or (pe_lc hc hN (pi_keys ho) ok hg ht he hs)).imp fun σ H Q ⟨C, A, ρ, t, ρ', R, q, k⟩ => by
    unfold nLc iKey at q
    simp only [Option.bind_eq_some_iff, Option.map_eq_some_iff] at q
    obtain ⟨⟨ds, ρ1⟩, ⟨⟨kvs, ρ1'⟩, h0, h0'⟩, q⟩ := q
    cases h0'
    dsimp only at q
    split at q
    rotate_left
    · cases q
    rename_i hbig
    simp only [Option.bind_eq_some_iff, Option.map_eq_some_iff] at q
    obtain ⟨ρw, h2, ⟨all, ρ2⟩, h3, h4⟩ := q
    cases h4
    obtain ⟨A1, d, ks, l1, R1, hv, hd, hn, hk⟩ := dicS_ok R h0
    rcases hd with hd | ⟨od, hd⟩
    · refine .inl ⟨d, .dK ks, hd, trivial, fun od => ?_⟩
      have s : Sw d ks H (upd H d (.frz od (.dK ks))) := ⟨.inl hd, .inr ⟨od, upd_same⟩, fun x q => upd_ne q⟩
      have R2 := R1.sw (o := .frz od (.dK ks)) s hn
      refine tLc_core (C := C.sw d (.frz od (.dK ks))) (A := A1) hsub (fun R' hR => ⟨_, hv, d, od, rfl, .inl ⟨ks, upd_same, hR _ _ A1 _ (.refl _ _) R2 it_keys ⟨upd_same, hn, hk.sw s⟩⟩⟩) hbig h2 h3 fun v H' A' F l2 R3 rt hnd hF => ?_
      have hd' : H' d = some (.frz od (.dK ks)) := l2.l.st _ _ upd_same pl_frz.1 hn
      have hn' : ¬ A' d := (l2.l.rd (.inl upd_same) hn).2
      have s' : Sw d ks H' (upd H' d (.dK ks)) := ⟨.inr ⟨od, hd'⟩, .inl upd_same, fun x q => upd_ne q⟩
      refine ⟨hd', k v _ A' F (l1.trans (Lt.unsw (ks := ks) hd hn (fun z => hn (R1.out d z)) l2)) (R3.unsw s' hn' fun x e tn np => ?_) (rt.sw s' fun m => hn' (hF d m).2.1) hnd fun a m => ⟨sw_none.mp (hF a m).1, (hF a m).2⟩⟩
      have := R1.fr d x e tn np
      rw [hd] at this; cases this; rfl
    · refine .inr (tLc_core (C := C) (A := A1) hsub (fun R' hR => ⟨_, hv, d, od, rfl, .inl ⟨ks, hd, hR _ _ A1 _ (.refl _ _) R1 it_keys ⟨hd, hn, hk⟩⟩⟩) hbig h2 h3 fun v H' A' F l2 R3 rt hnd hF => k v H' A' F (l1.trans l2) R3 rt hnd hF)

/-! ### d.get(k, x) -/
def cGet2 (d k x : D) : Option D := match d with
  | .dic kvs => (k.k?).map fun kk => (lookK kvs kk).getD x
  | _ => none
def eGet2 (f g h : Em) : Em := fun ρ => (f ρ).bind fun p => (rd p.2 p.1).bind fun d0 => match d0 with
  | .dic _ => (g p.2).bind fun q => (h q.2).bind fun r => (rd r.2 p.1).bind fun d => (rd r.2 q.1).bind fun k => (pu r.2 r.1).bind fun x => (cGet2 d k x).map fun z => (.val z, r.2)
  | _ => none
theorem RpK.get {K : PySem.W.Frag} {A : AS} {H : Hp} {ks : List (Key × V)} {kvs : List (DK × D)} (r : RpK K cm A H ks kvs) (k : DK) {x : V} {dx : D} (hx : Rp K cm A H x dx) : Rp K cm A H ((valV ks k.k).getD x) ((lookK kvs k).getD dx) := by
  cases q : lookK kvs k with
  | none => rw [r.lookN q]; exact hx
  | some d =>
    obtain ⟨v, e, rp⟩ := r.look q
    rw [e]; exact rp
theorem fe_get2 {f g h : Em} {o k x : Expr} {apos cpos : Pos} (hu : X.A.units + 1 < cLine) (ho : FE X cm o f) (hk : FE X cm k g) (hx : FE X cm x h) (m : M2 X o "get" apos k x cpos) : FE X cm (.Call (.Attribute o "get" apos) [k, x] [] cpos) (eGet2 f g h) :=
  (pe_dget2 hu ho hk hx m).imp fun σ H Q ⟨C, A, ρ, t, ρ', R, q, kk⟩ => by
    unfold eGet2 at q
    simp only [Option.bind_eq_some_iff] at q
    obtain ⟨⟨p, ρ1⟩, h1, d0, h2, q⟩ := q
    dsimp only at q
    split at q
    rotate_left
    · cases q
    simp only [Option.bind_eq_some_iff, Option.map_eq_some_iff] at q
    obtain ⟨⟨q1, ρ2⟩, h3, ⟨r1, ρ3⟩, h4, d, h5, kd, h6, xd, h7, z, h8, h9⟩ := q
    cases h9
    refine ⟨C, A, ρ, p, ρ1, R, h1, fun v H1 A1 l1 R1 w1 => ?_⟩
    obtain ⟨a, ks0, rfl, hs0, _⟩ := (rd_ok R1 w1 h2).di
    refine ⟨a, rfl, .inl ⟨ks0, hs0⟩, C, A1, ρ1, q1, ρ2, R1, h3, fun y H2 A2 l2 R2 w2 => ⟨C, A2, ρ2, r1, ρ3, R2, h4, fun z' H3 A3 l3 R3 w3 => ?_⟩⟩
    have ro := rd_ok R3 ((w1.later l2).later l3) h5
    unfold cGet2 at h8
    split at h8
    · rw [Option.map_eq_some_iff] at h8
      obtain ⟨kk', e1, rfl⟩ := h8
      obtain ⟨a', ks, e, hs, rk⟩ := ro.di
      cases e
      have hy : y = kV kk'.k := by
        cases kd <;> cases e1
        · exact (rd_ok R3 (w2.later l3) h6).int
        · exact (rd_ok R3 (w2.later l3) h6).str
      exact ⟨_, .inl ⟨ks, kk'.k, hs, hy, rfl⟩, kk _ H3 A3 ((l1.trans l2).trans l3) R3 (rk.get kk' (pu_ok R3 w3 h7))⟩
    · cases h8

/-! ### enumerate of a list -/
def enumD (ds : List D) : List D := ds.zipIdx.map fun p => .tup [.int (p.2 : Nat), p.1]
def iEnu (g : Am) : Im := fun ρ => (g ρ).bind fun p => (pus p.2 p.1).bind fun es => match es with
  | [.lst ds] => some (enumD ds, p.2)
  | _ => none
theorem it_enum {K : PySem.W.Frag} {a : Addr} {ds : List D} : ItOk K cm (Ite K a) (fun A H => ∃ xs, SL K A H a xs ∧ RpL K cm A H xs ds) (enumD ds) where
  stay := fun _ _ _ _ ⟨xs, s, r⟩ l => ⟨xs, s.later l, r.later l⟩
  go := fun A H i ⟨xs, s, r⟩ h => by
    have h' : i < xs.length := by rw [r.length]; simpa [enumD] using h
    exact ⟨xs, xs[i], s.sq, List.getElem?_eq_getElem h'⟩
  yld := fun A H i x H' d ⟨xs, s, r⟩ hdom e hy => by
    obtain ⟨T, y, rfl, hT, rfl, hx⟩ := hy
    simp only [enumD, List.getElem?_map, Option.map_eq_some_iff] at e
    obtain ⟨⟨d', j⟩, e1, rfl⟩ := e
    rw [List.getElem?_zipIdx] at e1
    simp only [Option.map_eq_some_iff, Nat.zero_add] at e1
    obtain ⟨d'', e2, e3⟩ := e1
    cases e3
    obtain ⟨v, h1, h2⟩ := r.get e2
    have := hx xs s.sq
    rw [h1] at this; cases this
    exact ⟨same_new hT, new_tup hdom hT (.cons (.int _) (.one h2))⟩
  stop := fun A H i ⟨xs, s, r⟩ h => ⟨xs, s.sq, by rw [r.length]; simpa [enumD] using h⟩
theorem fi_enum {g : Am} {p tpos : Pos} {elts : List Expr} {kk : Nat} (hg : Gl X "enumerate") (hm : X.mg "enumerate" = none) (ha : FA X cm [e] g) (hs : starEach [e] X.env = [(false, eval e X.env)] := by rfl) : FI X cm (.Tuple elts kk tpos) (.Call (.Name "enumerate" p) [e] [] pos) (iEnu g) :=
  (pi_enum hg hm ha hs).imp fun σ H R ⟨C, A, ρ, ds, ρ', RS0, q, k⟩ => by
    unfold iEnu at q
    simp only [Option.bind_eq_some_iff] at q
    obtain ⟨⟨rs, ρ1⟩, h1, es, h2, h3⟩ := q
    refine ⟨C, A, ρ, rs, ρ1, RS0, h1, fun vs H1 A1 l1 R1 w1 => ?_⟩
    have r := pus_ok R1 w1 h2
    dsimp only at h3
    split at h3
    · cases h3
      cases r with
      | cons r1 r => cases r with
        | nil => cases r1 with
          | lst s rl => exact ⟨_, _, rfl, s.sq, k _ H1 A1 _ l1 R1 it_enum ⟨_, s, rl⟩⟩
    · cases h3
end
end G

/-! Ly14: lists of things that may be one's own; stores to several names; fresh arguments. -/
namespace G
open PySem PySem.Spec L2

section
variable (K : PySem.W.Frag) (cm : Cm)
def RTL (A : AS) (H : Hp) : List V → List T → List Addr → Prop
  | [], [], F => F = []
  | v :: vs, t :: ts, F => ∃ F1 F2, F = F1 ++ F2 ∧ RT K cm A H v t F1 ∧ RTL A H vs ts F2
  | _, _, _ => False
abbrev Mm := Rho → Option (List T × Rho)
def tM (f : Mm) : TA := fun σ H Q => ∃ C A ρ t ρ', RS K cm C A [] σ H ρ ∧ f ρ = some (t, ρ') ∧
  ∀ v H' A' F, Lt C A H A' H' → RS K cm C A' F σ H' ρ' → RTL K cm A' H' v t F → F.Nodup → (∀ a ∈ F, C.H0 a = none ∧ A' a ∧ ¬ C.A0 a) → Q v H'
end
def Fc.plusL (C : Fc) (F : List Addr) : Fc := { C with A0 := fun a => C.A0 a ∨ a ∈ F }
section
variable {K : PySem.W.Frag} {cm : Cm} {A A' : AS} {H H' : Hp} {C : Fc} {σ : L2.St} {ρ ρ' : Rho} {Y F : List Addr}
theorem RS.plusL (R : RS K cm C A F σ H ρ) (hp : ∀ a ∈ F, A a) : RS K cm (C.plusL F) A [] σ H ρ := by
  obtain ⟨G', h1, h2, h3, h4, h5⟩ := R.sl
  refine ⟨R.len, ⟨G', h1, h2, fun i a m => ⟨(h3 i a m).1, fun z => z.elim (h3 i a m).2.1 (h3 i a m).2.2, fun z => nomatch z⟩, h4, fun i s e => h5 i s e⟩, fun a z => z.elim (R.out a) (hp a), fun a z => (R.sub a z).imp_left .inl, R.dom, R.fr, R.fd, R.tb, R.ne⟩
theorem RS.minusL (R : RS K cm (C.plusL F) A Y σ H ρ) (h0 : ∀ a ∈ F, C.H0 a = none) : RS K cm C A (F ++ Y) σ H ρ := by
  obtain ⟨G', h1, h2, h3, h4, h5⟩ := R.sl
  refine ⟨R.len, ⟨G', h1, h2, fun i a m => ⟨(h3 i a m).1, fun z => (h3 i a m).2.1 (.inl z), fun z => ?_⟩, h4, fun i s e => h5 i s e⟩, fun a z => R.out a (.inl z), fun a z => ?_, R.dom, R.fr, R.fd, R.tb, R.ne⟩
  · rcases List.mem_append.mp z with q | q
    · exact (h3 i a m).2.1 (.inr q)
    · exact (h3 i a m).2.2 q
  · rcases R.sub a z with (q | q) | q
    · exact .inl q
    · exact .inr (.inr (h0 a q))
    · exact .inr q
theorem Lt.of_plusL (l : Lt (C.plusL F) A H A' H') : Lt C A H A' H' := ⟨l.l, fun a o z e t => l.o a o (.inl z) e t⟩
theorem RTL.later : ∀ {vs : List V} {ts : List T} {F : List Addr}, Later A H A' H' → (∀ a ∈ F, ∀ o, H a = some o → NT o → H' a = some o) → RTL K cm A H vs ts F → RTL K cm A' H' vs ts F
  | [], [], F, _, _, h => h
  | v :: vs, t :: ts, F, l, k, h => by
    obtain ⟨F1, F2, rfl, h1, h2⟩ := h
    exact ⟨F1, F2, rfl, h1.later l fun a m => k a (by simp [m]), h2.later l fun a m => k a (by simp [m])⟩
  | [], _ :: _, _, _, _, h => h.elim
  | _ :: _, [], _, _, _, h => h.elim
/-- a slot is filled, other things staying aside -/
theorem RS.setY {i : Nat} {v : V} {t : T} (R : RS K cm C A (F ++ Y) σ H ρ) (hi : ∃ s, ρ[i]? = some s ∧ ∀ t, s ≠ .pin t) (h : RT K cm A H v t F) (hn : (F ++ Y).Nodup) (hF : ∀ a ∈ F, C.H0 a = none ∧ A a ∧ ¬ C.A0 a) :
    RS K cm C A Y (σ.set i (some v)) H (ρ.set i (.v t)) := by
  obtain ⟨G', h1, h2, h3, h4, h5⟩ := R.sl
  obtain ⟨s0, hs0, _⟩ := hi
  have hil : i < ρ.length := (List.getElem?_eq_some_iff.mp hs0).1
  rw [List.nodup_append] at hn
  refine ⟨by rw [List.length_set, List.length_set]; exact R.len, ⟨fun j => if j = i then F else G' j, fun j => ?_, fun j k a m m' => ?_, fun j a m => ?_, fun j e => ?_, fun j s e => ?_⟩, R.out, R.sub, R.dom, R.fr, R.fd, R.tb, R.ne⟩
  · dsimp only; split
    · exact hn.1
    · exact h1 j
  · dsimp only at m m'
    by_cases hj : j = i <;> by_cases hk : k = i
    · rw [hj, hk]
    · rw [if_pos hj] at m; rw [if_neg hk] at m'
      exact absurd (by simp [m]) (h3 k a m').2.2
    · rw [if_neg hj] at m; rw [if_pos hk] at m'
      exact absurd (by simp [m']) (h3 j a m).2.2
    · rw [if_neg hj] at m; rw [if_neg hk] at m'
      exact h2 j k a m m'
  · dsimp only at m
    by_cases hj : j = i
    · rw [if_pos hj] at m
      exact ⟨(hF a m).2.1, (hF a m).2.2, fun z => hn.2.2 a m a z rfl⟩
    · rw [if_neg hj] at m
      exact ⟨(h3 j a m).1, (h3 j a m).2.1, fun z => (h3 j a m).2.2 (by simp [z])⟩
  · dsimp only
    by_cases hj : j = i
    · subst hj
      rw [List.getElem?_set_self hil] at e; cases e
    · rw [if_neg hj]
      rw [List.getElem?_set_ne (Ne.symm hj)] at e
      exact h4 j e
  · dsimp only
    by_cases hj : j = i
    · subst hj
      rw [List.getElem?_set_self hil] at e; cases e
      refine ⟨some v, ?_, ?_⟩
      · rw [List.getElem?_set_self (by rw [R.len]; exact hil)]
      · rw [if_pos rfl]
        exact ⟨v, rfl, h, fun a m => (hF a m).1⟩
    · rw [if_neg hj]
      rw [List.getElem?_set_ne (Ne.symm hj)] at e
      obtain ⟨o, e1, r⟩ := h5 j s e
      refine ⟨o, by rw [List.getElem?_set_ne (Ne.symm hj)]; exact e1, ?_⟩
      exact r
end
def mNil : Mm := fun ρ => some ([], ρ)
def mCons (f : Rho → Option (T × Rho)) (g : Mm) : Mm := fun ρ => (f ρ).bind fun p => (g p.2).map fun q => (p.1 :: q.1, q.2)
section
variable {X : Cx} {cm : Cm} {pos pos' : Pos} {e a b c tg iter : Expr} {es : List Expr}
abbrev FM (X : Cx) (cm : Cm) (es : List Expr) (f : Mm) : Prop := PA X es (tM X.K cm f)
theorem fm_nil : FM X cm [] mNil := pa_nil.imp fun σ H Q ⟨C, A, ρ, t, ρ', R, q, k⟩ => by
  cases q
  exact k [] H A [] (.refl A H) R rfl .nil fun a m => nomatch m
theorem fm_cons {f : Rho → Option (T × Rho)} {g : Mm} (ha : FN X cm e f) (hr : FM X cm es g) (hs : starEach (e :: es) X.env = (false, eval e X.env) :: starEach es X.env := by rfl) : FM X cm (e :: es) (mCons f g) :=
  (pa_cons ha hr hs).imp fun σ H Q ⟨C, A, ρ, t, ρ', R, q, k⟩ => by
    simp only [mCons, Option.bind_eq_some_iff, Option.map_eq_some_iff] at q
    obtain ⟨⟨t1, ρ1⟩, h1, ⟨ts, ρ2⟩, h2, h3⟩ := q
    cases h3
    refine ⟨C, A, ρ, t1, ρ1, R, h1, fun v H1 A1 F1 l1 R1 rt1 n1 hF1 => ⟨C.plusL F1, A1, ρ1, ts, ρ2, R1.plusL fun a m => (hF1 a m).2.1, h2, fun vs H2 A2 F2 l2 R2 rt2 n2 hF2 => ?_⟩⟩
    refine k _ H2 A2 (F1 ++ F2) (l1.trans l2.of_plusL) (R2.minusL fun a m => (hF1 a m).1) ⟨F1, F2, rfl, rt1.later l2.l fun a m o q => l2.o a o (.inr m) q, rt2⟩ ?_ fun a m => ?_
    · rw [List.nodup_append]
      exact ⟨n1, n2, fun a m b m' z => (hF2 b m').2.2 (.inr (by rw [← z]; exact m))⟩
    · rcases List.mem_append.mp m with m | m
      · exact ⟨(hF1 a m).1, R2.out a (.inr m), (hF1 a m).2.2⟩
      · exact ⟨(hF2 a m).1, (hF2 a m).2.1, fun z => (hF2 a m).2.2 (.inl z)⟩
/-- the slots filled from the left -/
def setVs : List Nat → List T → Rho → Option Rho
  | [], [], ρ => some ρ
  | i :: is, t :: ts, ρ => (setV i t ρ).bind fun ρ1 => setVs is ts ρ1
  | _, _, _ => none
def setAll : List Nat → List V → L2.St → L2.St
  | i :: is, v :: vs, σ => setAll is vs (σ.set i (some v))
  | _, _, σ => σ
def sPars (is : List Nat) (g : Mm) : Sm := fun ρ => (g ρ).bind fun p => (setVs is p.1 p.2).map .nx
theorem RS.setVs {K : PySem.W.Frag} {A : AS} {H : Hp} {C : Fc} : ∀ {is : List Nat} {ts : List T} {vs : List V} {F : List Addr} {σ : L2.St} {ρ ρ' : Rho}, RS K cm C A F σ H ρ → G.setVs is ts ρ = some ρ' → RTL K cm A H vs ts F → F.Nodup → (∀ a ∈ F, C.H0 a = none ∧ A a ∧ ¬ C.A0 a) →
    vs.length = is.length ∧ RS K cm C A [] (setAll is vs σ) H ρ'
  | [], [], [], F, σ, ρ, ρ', R, q, rt, _, _ => by
    cases q
    cases rt
    exact ⟨rfl, R⟩
  | [], [], _ :: _, _, _, _, _, _, _, rt, _, _ => rt.elim
  | [], _ :: _, _, _, _, _, _, _, q, _, _, _ => nomatch q
  | _ :: _, [], _, _, _, _, _, _, q, _, _, _ => nomatch q
  | _ :: _, _ :: _, [], _, _, _, _, _, _, rt, _, _ => rt.elim
  | i :: is, t :: ts, v :: vs, F, σ, ρ, ρ', R, q, rt, n, hF => by
    simp only [G.setVs, Option.bind_eq_some_iff] at q
    obtain ⟨ρ1, q1, q2⟩ := q
    obtain ⟨F1, F2, rfl, rt1, rt2⟩ := rt
    obtain ⟨hs, rfl⟩ := setV_some q1
    have R1 := R.setY hs rt1 n fun a m => hF a (by simp [m])
    rw [List.nodup_append] at n
    obtain ⟨h1, h2⟩ := RS.setVs R1 q2 rt2 n.2.1 fun a m => hF a (by simp [m])
    exact ⟨by simp [h1], h2⟩
theorem tM_par {K : PySem.W.Frag} {is : List Nat} {g : Mm} {D : Ends} {σ : L2.St} {H : Hp} (h : tS K cm (sPars is g) D σ H) : tM K cm g σ H (fun vs H1 => vs.length = is.length ∧ D.nx (setAll is vs σ) H1) := by
  obtain ⟨C, A, ρ, o, R, q, k⟩ := h
  simp only [sPars, Option.bind_eq_some_iff, Option.map_eq_some_iff] at q
  obtain ⟨⟨ts, ρ1⟩, h1, ρ2, h2, h3⟩ := q
  cases h3
  refine ⟨C, A, ρ, ts, ρ1, R, h1, fun vs H1 A1 F l1 R1 rt n hF => ?_⟩
  obtain ⟨e, R2⟩ := R1.setVs h2 rt n hF
  exact ⟨e, k _ H1 A1 l1 R2⟩
theorem tM_mono {K : PySem.W.Frag} {g : Mm} {σ : L2.St} {H : Hp} {Q Q' : List V → Hp → Prop} (h : tM K cm g σ H Q) (i : ∀ v H, Q v H → Q' v H) : tM K cm g σ H Q' := by
  obtain ⟨C, A, ρ, t, ρ', R, q, k⟩ := h
  exact ⟨C, A, ρ, t, ρ', R, q, fun v H' A' F l R rt n hF => i _ _ (k v H' A' F l R rt n hF)⟩
theorem fs_pars2 {i j : Nat} {x y : Str} {g : Mm} {px py pt : Pos} {kt k2 : Nat} {pt2 : Pos} (hc : X.calm = true) (hN : X.N.Nodup) (hi : X.N[i]? = some x) (hj : X.N[j]? = some y) (hij : i ≠ j) (ha : FM X cm [a, b] g)
    (hx : X.env.scope.names.lookup x = some .local) (hy : X.env.scope.names.lookup y = some .local) (hw : swappedStores [.Tuple [.Name x px, .Name y py] kt pt] (.Tuple [a, b] k2 pt2) X.env = pure (some [x, y]) := by rfl) :
    FS X cm (.Assign [.Tuple [.Name x px, .Name y py] kt pt] (.Tuple [a, b] k2 pt2) pos) (sPars [i, j] g) := (ps_par hc hN hi hj hij hx hy ha hw).imp fun D σ H q => by
  refine tM_mono (tM_par q) fun vs H1 ⟨e, k⟩ => ?_
  match vs, e, k with
  | [v, w], _, k => exact ⟨v, w, rfl, k⟩
theorem fs_pars3 {i j l : Nat} {x y z : Str} {g : Mm} {px py pz pt : Pos} {kt k2 : Nat} {pt2 : Pos} (hc : X.calm = true) (hN : X.N.Nodup) (hi : X.N[i]? = some x) (hj : X.N[j]? = some y) (hl : X.N[l]? = some z) (hij : i ≠ j) (hil : i ≠ l) (hjl : j ≠ l) (ha : FM X cm [a, b, c] g)
    (hx : X.env.scope.names.lookup x = some .local) (hy : X.env.scope.names.lookup y = some .local) (hz : X.env.scope.names.lookup z = some .local) (hw : swappedStores [.Tuple [.Name x px, .Name y py, .Name z pz] kt pt] (.Tuple [a, b, c] k2 pt2) X.env = pure (some [x, y, z]) := by rfl) :
    FS X cm (.Assign [.Tuple [.Name x px, .Name y py, .Name z pz] kt pt] (.Tuple [a, b, c] k2 pt2) pos) (sPars [i, j, l] g) := (ps_par3 hc hN hi hj hl hij hil hjl hx hy hz ha hw).imp fun D σ H q => by
  refine tM_mono (tM_par q) fun vs H1 ⟨e, k⟩ => ?_
  match vs, e, k with
  | [u, v, w], _, k => exact ⟨u, v, w, rfl, k⟩
/-- four names and more: through the tuple -/
def gNs (is : List Nat) : TGs := fun vs σ H Q => vs.length = is.length ∧ Q (setAll is vs σ) H
theorem pgn_nil : PGs X [] (gNs []) := pgs_nil.imp fun vs σ H Q ⟨e, q⟩ => by
  cases vs with
  | nil => exact ⟨rfl, q⟩
  | cons _ _ => cases e
theorem pgn_cons {i : Nat} {is : List Nat} (h1 : PG X e (gName i)) (h2 : PGs X es (gNs is)) (hs : (assignEach (e :: es) X.env).map (·.2) = assign e X.env :: (assignEach es X.env).map (·.2) := by rfl) : PGs X (e :: es) (gNs (i :: is)) :=
  (pgs_cons h1 h2 hs).imp fun vs σ H Q ⟨e, q⟩ => by
    cases vs with
    | nil => cases e
    | cons v vs => exact ⟨v, vs, rfl, by simpa using e, q⟩
theorem fs_parsT {is : List Nat} {g : Mm} {ts : List Expr} {k1 k2 : Nat} {p1 p2 : Pos} (hc : X.calm = true) (ha : FM X cm es g) (hg : PGs X ts (gNs is)) (hn : (assignEach ts X.env).length = is.length := by rfl) (hst : (assignEach ts X.env).findIdx? (·.1) = none := by rfl) (hbig : is.length ≤ sizeLine := by decide)
    (hs : swapsWithSole [.Tuple ts k1 p1] (.Tuple es k2 p2) pos.line X.env = pure false := by rfl) (hw : swappedStores [.Tuple ts k1 p1] (.Tuple es k2 p2) X.env = pure none := by rfl) (h1 : (assignEach [.Tuple ts k1 p1] X.env).map (·.2) = [assign (.Tuple ts k1 p1) X.env] := by rfl) :
    FS X cm (.Assign [.Tuple ts k1 p1] (.Tuple es k2 p2) pos) (sPars is g) := (ps_asg (pe_tup ha) (pg_tup hc hg hn hst) hs hw h1).imp fun D σ H q => by
  obtain ⟨C, A, ρ, o, R, q, k⟩ := q
  simp only [sPars, Option.bind_eq_some_iff, Option.map_eq_some_iff] at q
  obtain ⟨⟨ts, ρ1⟩, h1, ρ2, h2, h3⟩ := q
  cases h3
  refine ⟨C, A, ρ, ts, ρ1, R, h1, fun vs H1 A1 F l1 R1 rt n hF => ?_⟩
  obtain ⟨e, _⟩ := R1.setVs h2 rt n hF
  refine ⟨by rw [e]; exact hbig, fun p hp => ⟨p, vs, rfl, .inl (.inl upd_same), e, e, ?_⟩⟩
  have g := same_new (o := .tup vs) hp
  have R2 := R1.grow g
  obtain ⟨_, R3⟩ := R2.setVs h2 (rt.later (.same g) fun a _ o q _ => g a o q) n hF
  exact k _ _ A1 (l1.trans (.same g)) R3
end

/-! ### a call whose one argument is fresh -/
section
variable {K : PySem.W.Frag} {cm : Cm} {A A' : AS} {H H' : Hp} {C : Fc} {σ : L2.St} {ρ ρ' : Rho} {F0 : List Addr}
theorem RS.argF {v : V} {t : T} (R : RS K cm C A F0 σ H ρ) (r : RT K cm A H v t F0) (n : F0.Nodup) (hF : ∀ a ∈ F0, C.H0 a = none ∧ A a ∧ ¬ C.A0 a) : RS K cm (cIn H (fun a => a ∈ F0) A [v]) A [] [some v] H [.pin t] := by
  refine ⟨rfl, ⟨fun i => if i = 0 then F0 else [], fun i => ?_, fun i j a m m' => ?_, fun i a m => ?_, fun i e => ?_, fun i s e => ?_⟩, fun a z => z.1, fun a z => ?_, R.dom, fun _ _ e _ _ => e, fun _ e => e, R.tb, R.ne⟩
  · dsimp only; split
    · exact n
    · exact .nil
  · dsimp only at m m'
    split at m <;> split at m' <;> first | omega | (exact absurd m (by simp)) | (exact absurd m' (by simp))
  · dsimp only at m
    split at m
    · exact ⟨(hF a m).2.1, fun z => z.2 m, fun z => nomatch z⟩
    · cases m
  · dsimp only
    split
    · rename_i z; rw [z] at e; cases e
    · rfl
  · cases i with
    | zero =>
      cases e
      exact ⟨some v, rfl, v, rfl, rfl, r, fun a m => .inl m⟩
    | succ i => cases e
  · by_cases q : a ∈ F0
    · exact .inr (.inl q)
    · exact .inl ⟨z, q⟩
theorem RS.afterF {σ' : L2.St} {ss : Rho} {vs : List V} {F : List Addr} (R : RS K cm C A F0 σ H ρ) (hF0 : ∀ a ∈ F0, C.H0 a = none ∧ A a ∧ ¬ C.A0 a) (l : Lt (cIn H (fun a => a ∈ F0) A vs) A H A' H') (R' : RS K cm (cIn H (fun a => a ∈ F0) A vs) A' F σ' H' ss)
    (hF : ∀ a ∈ F, H a = none ∧ A' a ∧ ¬ (cIn H (fun a => a ∈ F0) A vs).A0 a) : Lt C A H A' H' ∧ RS K cm C A' F σ H' ρ ∧ ∀ a ∈ F, C.H0 a = none ∧ A' a ∧ ¬ C.A0 a := by
  have kept : ∀ a o, A a → a ∉ F0 → H a = some o → NT o → H' a = some o := fun a o z n e t => l.o a o ⟨z, n⟩ e t
  have inA : ∀ a, A a → a ∉ F0 → A' a := fun a z n => R'.out a ⟨z, n⟩
  have nF0 : ∀ a, C.A0 a → a ∉ F0 := fun a z m => (hF0 a m).2.2 z
  refine ⟨⟨l.l, fun a o z e t => kept a o (R.out a z) (nF0 a z) e t⟩, ?_, fun a m => ⟨R.new0 (hF a m).1, (hF a m).2.1, fun z => (hF a m).2.2 ⟨R.out a z, nF0 a z⟩⟩⟩
  obtain ⟨Fs, h1, h2, h3, h4, h5⟩ := R.sl
  refine ⟨R.len, ⟨Fs, h1, h2, fun i a m => ⟨inA a (h3 i a m).1 (h3 i a m).2.2, (h3 i a m).2.1, fun z => R.dom a (h3 i a m).1 (hF a z).1⟩, h4, fun i s e => ?_⟩, fun a z => inA a (R.out a z) (nF0 a z), fun a z => ?_, R'.dom, fun a o e t n => R'.fr a o (R.fr a o e t n) t (fun m => ?_), fun a z => R'.fd a (R.fd a z), R'.tb, R'.ne⟩
  · obtain ⟨o, e1, r⟩ := h5 i s e
    exact ⟨o, e1, r.keep l.l fun a m o q t => kept a o (h3 i a m).1 (h3 i a m).2.2 q t⟩
  · rcases R'.sub a z with q | q | q
    · exact R.sub a q.1
    · exact .inr (.inr (hF0 a q).1)
    · exact .inr (.inr (R.new0 q))
  · rw [(hF0 a m).1] at e; cases e
def nCallF (f : Rho → Option (T × Rho)) (g : Rho → Option (T × Rho)) : Rho → Option (T × Rho) := fun ρ => (g ρ).bind fun p => (f [.pin p.1]).map fun r => (r.1, p.2)
theorem tN_callF {m : Rho → Option (T × Rho)} {g : Rho → Option (T × Rho)} {Q : VK} {E : XK} (h : tN K cm (nCallF m g) σ H Q) : tCall (spG K cm 1 m) [] E (tM K cm (mCons g mNil)) σ H Q := by
  obtain ⟨C, A, ρ, t, ρ', R, q, kk⟩ := h
  simp only [nCallF, Option.bind_eq_some_iff, Option.map_eq_some_iff] at q
  obtain ⟨⟨t1, ρ1⟩, h1, ⟨t', ss'⟩, h2, h3⟩ := q
  cases h3
  refine ⟨C, A, ρ, [t1], ρ1, R, by simp [mCons, mNil, h1], fun vs H1 A1 F l1 R1 rt n hF => ?_⟩
  match vs, rt with
  | [v], ⟨F1, F2, e, rt, e2⟩ =>
    cases e2
    rw [List.append_nil] at e
    subst e
    refine ⟨rfl, _, A1, _, _, ss', R1.argF rt n hF, h2, fun v H' A' F' σ' lt R' rt' hnd hF' => ?_⟩
    obtain ⟨l2, R2, hF2⟩ := R1.afterF hF lt R' hF'
    exact kk v H' A' F' (l1.trans l2) R2 rt' hnd hF2
  | _ :: _ :: _, ⟨_, _, _, _, q⟩ => exact q.elim
  | [], q => exact q.elim
end
section
variable {X : Cx} {cm : Cm} {pos p : Pos} {e : Expr} {es : List Expr}
theorem fn_callF {p1 : Str} {k j : Nat} {x : Str} {m : Rho → Option (T × Rho)} {g : Rho → Option (T × Rho)} (D : Dg X.prog X.w X.K X.mg X.base cm k x [p1] m) (hr : Room j X.A) (hk : k ≤ j) (hg : Gl X x) (ha : FN X cm e g)
    (hdb : (x == ("__debug__" : Str)) = false := by decide) (he : starEach [e] X.env = (false, eval e X.env) :: starEach [] X.env := by rfl) (hpl : (backTo pos (starEach ([] : List Expr) X.env)).any (·.1) = false := by rfl) :
    FN X cm (.Call (.Name x p) [e] [] pos) (nCallF m g) := by
  obtain ⟨f, fd, F, hm, hkp, hb⟩ := D
  exact (pe_call F (hr.mono hk) hg hm hkp hb .nil pass0 (fm_cons ha fm_nil he) hdb he hpl).imp fun σ H Q q => tN_callF q
end

/-! ### defs as the top has written them -/
structure Dn (K : PySem.W.Frag) (mg : Str → Option Value) (x : Str) (st : Stmt) (ps : List Str) (f : Addr) (fd : FuncData) : Prop where
  F : Fun K x x st f fd
  m : mg x = some (.ref f)
  bb : ∀ us : List Value, us.length = ps.length → bindArgs fd ⟨us, []⟩ = pure (ps.zip us)
theorem Dn.b {K : PySem.W.Frag} {mg : Str → Option Value} {x : Str} {st : Stmt} {ps : List Str} {f : Addr} {fd : FuncData} (D : Dn K mg x st ps f fd) : Binds K fd ps [] := .all D.bb
section
variable {P : Program} {w : World} {K : PySem.W.Frag} {mg : Str → Option Value} {base : Heap} {cm : Cm}
theorem Dn.dg {x : Str} {st : Stmt} {f : Addr} {fd : FuncData} {N ps : List Str} {k : Nat} {g : Sm} (D : Dn K mg x st ps f fd) (S : FnScope N ps (defScope st))
    (hb : ∀ (cdv : Value) (A : Around) (outer : List Env) (s : Shared) (H : Hp) (E : XK), Room k (A.deeper (PyProof.Rows.envOfC x (defScope st) s.heap.objs.size f cdv)) → FSs (cxOf CX0 P w K mg base N x (defScope st) f cdv A outer s H E).nox cm (defBody st) g) :
    Dg P w K mg base cm (k + 1) x ps (runD (N.length - ps.length) g) := ⟨f, fd, fd_ok D.F S hb, D.m, D.F.kp, D.b⟩
theorem Dn.none {x : Str} {st : Stmt} {f : Addr} {fd : FuncData} {ps : List Str} {k : Nat} (D : Dn K mg x st ps f fd) : Dg P w K mg base cm k x ps (fun _ => none) := ⟨f, fd, fd_none, D.m, D.F.kp, D.b⟩
theorem dn_mk {h : Heap} (X : K.In h) (G : h.Ns mainGlobals mg) {x : Str} {st : Stmt} {ps : List Str} {f : Addr} {oc : Value} {od an : Option Addr} {osl : Array (Option Value)} {kV doc pm cdv ct : Value}
    (a : PySem.W.nsIn K mainGlobals x = some (some (.ref f))) (l : K.lookup f = some ⟨oc, od, .func (PySem.W.fnOf x x (defArgs st) (defBody st) (defScope st) .none kV doc pm an cdv ct), osl⟩) (c : PySem.W.codeIn K cdv x = true) (k : PySem.W.keepIn K (.ref f) = true)
    (b : ∀ (kV doc pm : Value) (an : Option Addr) (cdv ct : Value) (us : List Value), us.length = ps.length → bindArgs (PySem.W.fnOf x x (defArgs st) (defBody st) (defScope st) .none kV doc pm an cdv ct) ⟨us, []⟩ = pure (ps.zip us)) :
    ∃ f fd, Dn K mg x st ps f fd := ⟨f, _, fun_mk l c k, PySem.W.mg_of X G a, b _ _ _ _ _ _⟩
end
end G

/-! Ly15: a name's own thing laid down where it is kept; minus. -/
namespace G
open PySem PySem.Spec L2

/-- a name that is kept by another thing: if it is one's own, it is laid down -/
def eKeep (i : Nat) : Em := fun ρ => match ρ[i]? with
  | some (.v (.p d)) => some (.val d, ρ)
  | some (.v t) => some (.val t.d, ρ.set i (.v (.p t.d)))
  | _ => none
def cNeg : D → Option D
  | .int i => some (.int (-i))
  | _ => none
def eUn (c : D → Option D) (f : Em) : Em := fun ρ => (f ρ).bind fun p => (rd p.2 p.1).bind fun d => (c d).map fun z => (.val z, p.2)
section
variable {X : Cx} {cm : Cm} {pos : Pos} {e : Expr}
theorem fe_keep {i : Nat} (h : PE X e (tVar i)) : FE X cm e (eKeep i) := h.imp fun σ H Q ⟨C, A, ρ, r, ρ', R, f, k⟩ => by
  obtain ⟨F, h1, h2, h3, h4, h5⟩ := R.sl
  unfold eKeep at f
  split at f
  · rename_i d q
    cases f
    obtain ⟨o, e1, v, rfl, r, _⟩ := h5 i _ q
    exact ⟨v, e1, k v H A (.refl A H) R r.2⟩
  · rename_i t _ q
    cases f
    obtain ⟨o, e1, v, rfl, r, _⟩ := h5 i _ q
    have e : frzS i ρ = some (ρ.set i (.v (.p t.d))) := by unfold frzS; rw [q]
    obtain ⟨A', l, R'⟩ := R.frz e
    have q2 : (ρ.set i (.v (.p t.d)))[i]? = some (.v (.p t.d)) := List.getElem?_set_self (List.getElem?_eq_some_iff.mp q).1
    obtain ⟨F', _, _, _, _, h5'⟩ := R'.sl
    obtain ⟨o', e1', v', rfl, r', _⟩ := h5' i _ q2
    rw [e1] at e1'; cases e1'
    exact ⟨v, e1, k v H A' l R' r'.2⟩
  · cases f
theorem fe_neg {f : Em} (h : FE X cm e f) : FE X cm (.UnaryOp .USub e pos) (eUn cNeg f) := (pe_un un_neg h).imp fun σ H Q ⟨C, A, ρ, t, ρ', R, q, k⟩ => by
  simp only [eUn, Option.bind_eq_some_iff, Option.map_eq_some_iff] at q
  obtain ⟨⟨r, ρ1⟩, h1, d, h2, z, h3, h4⟩ := q
  cases h4
  refine ⟨C, A, ρ, r, _, R, h1, fun v H1 A1 l1 R1 w1 => ?_⟩
  have ro := rd_ok R1 w1 h2
  cases d <;> cases h3
  cases ro.int
  exact ⟨_, rfl, k _ H1 A1 l1 R1 (.int _)⟩
/-- a name of the module that nobody changes -/
def KC (K : PySem.W.Frag) (cm : Cm) (mg : Str → Option Value) (x : Str) (d : D) : Prop := ∃ u v, mg x = some u ∧ RelV v u ∧ ∀ A H, Rp K cm A H v d
theorem KC.fe {x : Str} {d : D} (h : KC X.K cm X.mg x d) (hg : Gl X x) (hd : (x == ("__debug__" : Str)) = false := by decide) : FE X cm (.Name x pos) (eC d) := by
  obtain ⟨u, v, hm, r, h⟩ := h
  exact fe_c (pe_glob hg hm r hd) h
end
end G

/-! Ly16: the law's own end; mirrors applied. -/
namespace G
open PySem PySem.Spec L2

theorem only_args {K : PySem.W.Frag} {cm : Cm} {H : Hp} {a : Addr} {ns : List Int} (h : SqL K H a (ns.map V.int)) (ht : LamX.Tabs cm.T H) : RS K cm (cIn H (fun _ => False) (fun _ => False) [.ref a]) (fun _ => False) [] [some (.ref a)] H [.v (.p (.lst (ns.map D.int)))] := by
  refine ⟨rfl, ⟨fun _ => [], fun _ => .nil, fun _ _ _ m => (nomatch m), fun _ _ m => (nomatch m), fun _ _ => rfl, fun i s e => ?_⟩, fun a z => z.1, fun a z => z.elim, fun a z => z.elim, fun _ _ e _ _ => e, fun _ e => e, ht, fun _ z => z.elim⟩
  cases i with
  | succ i => cases e
  | zero =>
    cases e
    refine ⟨some (.ref a), rfl, .ref a, rfl, RT.pure (.lst (h.imp (fun z => ⟨z, id⟩) id) ?_), fun a m => nomatch m⟩
    clear h
    induction ns with
    | nil => exact .nil
    | cons n r ih => exact .cons (.int n) ih
/-- the law's promise, from what its mirror tells -/
theorem law_sp {K : PySem.W.Frag} {cm : Cm} {m : Rho → Option (T × Rho)} {H : Hp} {a : Addr} {ns : List Int} (h : SqL K H a (ns.map V.int)) (ht : LamX.Tabs cm.T H) (q : (m [.v (.p (.lst (ns.map D.int)))]).map (·.1) = some (.p (.bl true))) (E : XK) :
    spG K cm 1 m [.ref a] H (fun v _ => v = .bl true) E := by
  rw [Option.map_eq_some_iff] at q
  obtain ⟨⟨t, ss'⟩, q1, q2⟩ := q
  cases q2
  refine ⟨rfl, fun _ => False, fun _ => False, _, _, ss', only_args h ht, q1, fun v H' A' F σ' l R rt n hF => ?_⟩
  obtain ⟨_, r⟩ := rt
  cases r; rfl
end G

/-! Ly17: mirrors applied to slots; loops by what holds of them. -/
namespace G
open PySem PySem.Spec L2

/-- what a def answers -/
def ap (f : Rho → Option (T × Rho)) (ds : List D) : Option T := (f (slP ds)).map (·.1)
/-- a slot that may be filled: empty, or with a thing -/
def lo : Option T → Sl
  | none => .no
  | some t => .v t
def lp : Option D → Sl
  | none => .no
  | some d => .v (.p d)
@[simp] theorem lp_some (d : D) : lp (some d) = .v (.p d) := rfl
@[simp] theorem lo_some (d : T) : lo (some d) = .v d := rfl
def setAt (i : Nat) (t : T) (ρ : Rho) : Option Sl → Option Rho
  | some .no => some (ρ.set i (.v t))
  | some (.v _) => some (ρ.set i (.v t))
  | _ => none
@[simp] theorem setAt_no (i : Nat) (t : T) (ρ : Rho) : setAt i t ρ (some .no) = some (ρ.set i (.v t)) := (rfl)
@[simp] theorem setAt_v (i : Nat) (t u : T) (ρ : Rho) : setAt i t ρ (some (.v u)) = some (ρ.set i (.v t)) := (rfl)
@[simp] theorem setAt_lo (i : Nat) (t : T) (o : Option T) (ρ : Rho) : setAt i t ρ (some (lo o)) = some (ρ.set i (.v t)) := by cases o <;> rfl
@[simp] theorem setAt_lp (i : Nat) (t : T) (o : Option D) (ρ : Rho) : setAt i t ρ (some (lp o)) = some (ρ.set i (.v t)) := by cases o <;> rfl
@[simp] theorem setV_ap (i : Nat) (t : T) (ρ : Rho) : setV i t ρ = setAt i t ρ ρ[i]? := by
  unfold setV setAt
  split <;> simp_all
@[simp] theorem hName_ap (i : Nat) (d : D) (ρ : Rho) : hName i d ρ = setAt i (.p d) ρ ρ[i]? := setV_ap i _ ρ
def varAt (i : Nat) (ρ : Rho) : Option Sl → Option (RV × Rho)
  | some (.v (.p d)) => some (.val d, ρ)
  | some (.v _) => some (.ref i, ρ)
  | some (.pin _) => some (.ref i, ρ)
  | _ => none
@[simp] theorem varAt_p (i : Nat) (ρ : Rho) (d : D) : varAt i ρ (some (.v (.p d))) = some (.val d, ρ) := (rfl)
@[simp] theorem varAt_ls (i : Nat) (ρ : Rho) (d : List D) : varAt i ρ (some (.v (.ls d))) = some (.ref i, ρ) := (rfl)
@[simp] theorem varAt_di (i : Nat) (ρ : Rho) (d : List (DK × D)) : varAt i ρ (some (.v (.di d))) = some (.ref i, ρ) := (rfl)
@[simp] theorem varAt_dt (i : Nat) (ρ : Rho) (d : List (List DK × D)) : varAt i ρ (some (.v (.dt d))) = some (.ref i, ρ) := (rfl)
@[simp] theorem varAt_pin (i : Nat) (ρ : Rho) (t : T) : varAt i ρ (some (.pin t)) = some (.ref i, ρ) := (rfl)
@[simp] theorem eVar_ap (i : Nat) (ρ : Rho) : eVar i ρ = varAt i ρ ρ[i]? := by
  unfold eVar varAt
  split <;> simp_all
def keepAt (i : Nat) (ρ : Rho) : Option Sl → Option (RV × Rho)
  | some (.v (.p d)) => some (.val d, ρ)
  | some (.v t) => some (.val t.d, ρ.set i (.v (.p t.d)))
  | _ => none
@[simp] theorem keepAt_p (i : Nat) (ρ : Rho) (d : D) : keepAt i ρ (some (.v (.p d))) = some (.val d, ρ) := (rfl)
@[simp] theorem keepAt_ls (i : Nat) (ρ : Rho) (d : List D) : keepAt i ρ (some (.v (.ls d))) = some (.val (.lst d), ρ.set i (.v (.p (.lst d)))) := by simp [keepAt, T.d]
@[simp] theorem keepAt_di (i : Nat) (ρ : Rho) (d : List (DK × D)) : keepAt i ρ (some (.v (.di d))) = some (.val (.dic d), ρ.set i (.v (.p (.dic d)))) := by simp [keepAt, T.d]
@[simp] theorem eKeep_ap (i : Nat) (ρ : Rho) : eKeep i ρ = keepAt i ρ ρ[i]? := by
  unfold eKeep keepAt
  split <;> simp_all
def moveAt (i : Nat) (ρ : Rho) : Option Sl → Option (T × Rho)
  | some (.v (.p d)) => some (.p d, ρ)
  | some (.v t) => some (t, ρ.set i .no)
  | _ => none
@[simp] theorem moveAt_p (i : Nat) (ρ : Rho) (d : D) : moveAt i ρ (some (.v (.p d))) = some (.p d, ρ) := (rfl)
@[simp] theorem moveAt_ls (i : Nat) (ρ : Rho) (d : List D) : moveAt i ρ (some (.v (.ls d))) = some (.ls d, ρ.set i .no) := (rfl)
@[simp] theorem moveAt_di (i : Nat) (ρ : Rho) (d : List (DK × D)) : moveAt i ρ (some (.v (.di d))) = some (.di d, ρ.set i .no) := (rfl)
@[simp] theorem nMove_ap (i : Nat) (ρ : Rho) : nMove i ρ = moveAt i ρ ρ[i]? := by
  unfold nMove moveAt
  split <;> simp_all
@[simp] theorem Td_p (d : D) : T.d (.p d) = d := by simp [T.d]
@[simp] theorem Td_ls (d : List D) : T.d (.ls d) = .lst d := by simp [T.d]
@[simp] theorem Td_di (d : List (DK × D)) : T.d (.di d) = .dic d := by simp [T.d]
@[simp] theorem rd_val (ρ : Rho) (d : D) : rd ρ (.val d) = some d := (rfl)
@[simp] theorem pu_val (ρ : Rho) (d : D) : pu ρ (.val d) = some d := (rfl)
def rdAt : Option Sl → Option D
  | some (.v t) => t.q
  | some (.pin t) => t.q
  | _ => none
@[simp] theorem rd_ref (ρ : Rho) (i : Nat) : rd ρ (.ref i) = rdAt ρ[i]? := by
  show (ρ[i]?.bind Sl.t).bind T.q = _
  cases ρ[i]? with
  | none => rfl
  | some s => cases s <;> rfl
@[simp] theorem rdAt_ls (ds : List D) : rdAt (some (.v (.ls ds))) = some (.lst ds) := (rfl)
@[simp] theorem rdAt_di (ds : List (DK × D)) : rdAt (some (.v (.di ds))) = some (.dic ds) := (rfl)
@[simp] theorem rdAt_pls (ds : List D) : rdAt (some (.pin (.ls ds))) = some (.lst ds) := (rfl)
@[simp] theorem rdAt_pdi (ds : List (DK × D)) : rdAt (some (.pin (.di ds))) = some (.dic ds) := (rfl)
@[simp] theorem rdAt_pp (d : D) : rdAt (some (.pin (.p d))) = some d := (rfl)
@[simp] theorem pus_nil (ρ : Rho) : pus ρ [] = some [] := (rfl)
@[simp] theorem pus_cons (ρ : Rho) (r : RV) (rs : List RV) : pus ρ (r :: rs) = (pu ρ r).bind fun d => (pus ρ rs).map fun ds => d :: ds := (rfl)
@[simp] theorem rds_nil (ρ : Rho) : rds ρ [] = some [] := (rfl)
@[simp] theorem rds_cons (ρ : Rho) (r : RV) (rs : List RV) : rds ρ (r :: rs) = (rd ρ r).bind fun d => (rds ρ rs).map fun ds => d :: ds := (rfl)
@[simp] theorem setVs_nil (ρ : Rho) : setVs [] [] ρ = some ρ := (rfl)
@[simp] theorem setVs_cons (i : Nat) (is : List Nat) (t : T) (ts : List T) (ρ : Rho) : setVs (i :: is) (t :: ts) ρ = (setV i t ρ).bind fun ρ1 => setVs is ts ρ1 := (rfl)
def outOf (n : Nat) : Out → Option (T × Rho)
  | .rt t ρ => some (t, ρ.take n)
  | .nx ρ => some (.p .non, ρ.take n)
  | _ => none
@[simp] theorem outOf_rt (n : Nat) (t : T) (ρ : Rho) : outOf n (.rt t ρ) = some (t, ρ.take n) := (rfl)
@[simp] theorem outOf_nx (n : Nat) (ρ : Rho) : outOf n (.nx ρ) = some (.p .non, ρ.take n) := (rfl)
theorem runD_ap (m : Nat) (g : Sm) (ss : Rho) : runD m g ss = (g (ss ++ List.replicate m .no)).bind (outOf ss.length) := by
  unfold runD outOf
  congr 1
@[simp] theorem slP_nil : slP [] = [] := (rfl)
@[simp] theorem slP_cons (d : D) (ds : List D) : slP (d :: ds) = .v (.p d) :: slP ds := (rfl)
@[simp] theorem nCall_ap (n : Nat) (f : Rho → Option (T × Rho)) (g : Am) (ρ : Rho) : nCall n f g ρ = ((g ρ).bind fun p => (pus p.2 p.1).bind fun ds => if ds.length = n then (ap f ds).map fun t => (t, p.2) else none) := by
  simp only [nCall, ap, Option.map_map]; rfl
@[simp] theorem eIx_ap (f g : Em) (ρ : Rho) : eIx f g ρ = eOp cIx f g ρ := (rfl)
@[simp] theorem cAdd_int (i j : Int) : cAdd (.int i) (.int j) = some (.int (i + j)) := (rfl)
@[simp] theorem cSub_int (i j : Int) : cSub (.int i) (.int j) = some (.int (i - j)) := (rfl)
@[simp] theorem cMul_int (i j : Int) : cMul (.int i) (.int j) = if mulOk i j then some (.int (i * j)) else none := (rfl)
@[simp] theorem cDiv_int (i j : Int) : cDiv (.int i) (.int j) = if 0 < j ∧ j.natAbs.log2 < 9000 then some (.int (i / j)) else none := (rfl)
@[simp] theorem cMod_int (i j : Int) : cMod (.int i) (.int j) = if 0 < j then some (.int (i % j)) else none := (rfl)
@[simp] theorem cLt_int (i j : Int) : cLt (.int i) (.int j) = some (.bl (decide (i < j))) := (rfl)
@[simp] theorem cLe_int (i j : Int) : cLe (.int i) (.int j) = some (.bl (decide (i ≤ j))) := (rfl)
@[simp] theorem cGt_int (i j : Int) : cGt (.int i) (.int j) = some (.bl (decide (j < i))) := (rfl)
@[simp] theorem cGe_int (i j : Int) : cGe (.int i) (.int j) = some (.bl (decide (j ≤ i))) := (rfl)
@[simp] theorem cEq_int (i j : Int) : cEq (.int i) (.int j) = some (.bl (decide (i = j))) := by
  simp [cEq, D.ok, D.eq, D.flat, D.dep]
@[simp] theorem cNe_int (i j : Int) : cNe (.int i) (.int j) = some (.bl (!decide (i = j))) := by
  simp [cNe, D.ok, D.eq, D.flat, D.dep]
@[simp] theorem cLen_lst (ds : List D) : cLen [.lst ds] = some (.int ds.length) := (rfl)
@[simp] theorem cLen_tup (ds : List D) : cLen [.tup ds] = some (.int ds.length) := (rfl)
@[simp] theorem cIx_lst (ds : List D) (i : Int) : cIx (.lst ds) (.int i) = atI ds i := (rfl)
@[simp] theorem cIx_tup (ds : List D) (i : Int) : cIx (.tup ds) (.int i) = atI ds i := (rfl)
theorem atI_eq {α : Type} (xs : List α) (n : Nat) : atI xs (n : Int) = xs[n]? := by
  by_cases h : n < xs.length
  · rw [List.getElem?_eq_getElem h]; exact atI_nat (List.getElem?_eq_getElem h)
  · rw [List.getElem?_eq_none (by omega)]
    unfold atI ixN
    rw [if_pos (by omega), if_neg (by omega)]; rfl
@[simp] theorem atI_cast {α : Type} (xs : List α) (n : Nat) : atI xs (n : Int) = xs[n]? := atI_eq xs n
@[simp] theorem atI_succ {α : Type} (xs : List α) (n : Nat) : atI xs ((n : Int) + 1) = xs[n + 1]? := atI_eq xs (n + 1)
@[simp] theorem atI_zero {α : Type} (xs : List α) : atI xs 0 = xs[0]? := atI_eq xs 0
@[simp] theorem atI_one {α : Type} (xs : List α) : atI xs 1 = xs[1]? := atI_eq xs 1
@[simp] theorem atI_lit {α : Type} (xs : List α) (n : Nat) : atI xs (no_index (OfNat.ofNat n)) = xs[n]? := atI_eq xs n
@[simp] theorem cInt_int (i : Int) : cInt [.int i] = some (.int i) := (rfl)
@[simp] theorem cAbs_int (i : Int) : cAbs [.int i] = some (.int (if i < 0 then -i else i)) := (rfl)
@[simp] theorem isLs_v (ds : List D) (i : Nat) (ρ : Rho) (h : ρ[i]? = some (.v (.ls ds))) : isLs ρ i = some (.v (.ls ds), ds) := by unfold isLs; rw [h]
theorem isLs_ap (ρ : Rho) (i : Nat) : isLs ρ i = (match ρ[i]? with
  | some (.v (.ls ds)) => some (.v (.ls ds), ds)
  | some (.pin (.ls ds)) => some (.pin (.ls ds), ds)
  | _ => none) := (rfl)
theorem isDi_ap (ρ : Rho) (i : Nat) : isDi ρ i = (match ρ[i]? with
  | some (.v (.di ds)) => some (.v (.di ds), ds)
  | some (.pin (.di ds)) => some (.pin (.di ds), ds)
  | _ => none) := (rfl)
@[simp] theorem Sw_v (t u : T) : Sl.w (.v t) u = .v u := (rfl)
@[simp] theorem Sw_pin (t u : T) : Sl.w (.pin t) u = .pin u := (rfl)
/-! loops -/
theorem forF_rel {h : D → Rho → Option Rho} {b : Sm} (I : Nat → Rho → Prop) {ds : List D} {ρ : Rho} (h0 : I 0 ρ) (hs : ∀ i (hi : i < ds.length) ρ, I i ρ → ∃ ρ1 ρ2, h ds[i] ρ = some ρ1 ∧ (b ρ1 = some (.nx ρ2) ∨ b ρ1 = some (.ct ρ2)) ∧ I (i + 1) ρ2) :
    ∃ ρ', forF h b ds ρ = some (.nx ρ') ∧ I ds.length ρ' := by
  induction ds generalizing I ρ with
  | nil => exact ⟨ρ, rfl, h0⟩
  | cons d ds ih =>
    obtain ⟨ρ1, ρ2, e1, e2, i2⟩ := hs 0 (by simp) ρ h0
    obtain ⟨ρ', e3, i3⟩ := ih (fun i => I (i + 1)) i2 fun i hi ρ q => hs (i + 1) (by simpa using hi) ρ q
    refine ⟨ρ', ?_, i3⟩
    simp only [forF]
    rw [show h d ρ = some ρ1 from e1]
    rcases e2 with e2 | e2 <;> simp [e2, e3]
theorem rgD_length (lo : Int) (n : Nat) : (rgD lo n).length = n := by simp [rgD]
theorem rgD_get (lo : Int) (n i : Nat) (hi : i < (rgD lo n).length) : (rgD lo n)[i] = .int (lo + i) := by simp [rgD]
theorem forF_rg {h : D → Rho → Option Rho} {b : Sm} (I : Nat → Rho → Prop) {lo : Int} {n : Nat} {ρ : Rho} (h0 : I 0 ρ) (hs : ∀ i, i < n → ∀ ρ, I i ρ → ∃ ρ1 ρ2, h (.int (lo + i)) ρ = some ρ1 ∧ (b ρ1 = some (.nx ρ2) ∨ b ρ1 = some (.ct ρ2)) ∧ I (i + 1) ρ2) :
    ∃ ρ', forF h b (rgD lo n) ρ = some (.nx ρ') ∧ I n ρ' := by
  have := forF_rel (h := h) (b := b) I (ds := rgD lo n) h0 fun i hi ρ q => by
    rw [rgD_get]
    exact hs i (by rwa [rgD_length] at hi) ρ q
  rwa [rgD_length] at this
/-- a comprehension, every turn of which leaves the slots as they were -/
theorem lcF_map {own : List Nat} {h : D → Rho → Option Rho} {ifs : Bm} {elt : Em} {ρ : Rho} {f : D → D} : ∀ {ds : List D}, (∀ d ∈ ds, ∃ ρ1 ρ2 r ρ3, h d ρ = some ρ1 ∧ ifs ρ1 = some (true, ρ2) ∧ elt ρ2 = some (r, ρ3) ∧ pu ρ3 r = some (f d) ∧ wipeS own ρ3 = some ρ) → lcF own h ifs elt ds ρ = some (ds.map f, ρ)
  | [], _ => rfl
  | d :: ds, k => by
    obtain ⟨ρ1, ρ2, r, ρ3, e1, e2, e3, e4, e5⟩ := k d (by simp)
    have ih := lcF_map (ds := ds) fun d m => k d (by simp [m])
    simp [lcF, e1, e2, e3, e4, e5, ih]
@[simp] theorem hTup_ap (n : Nat) (hs : List D → Rho → Option Rho) (ds : List D) (ρ : Rho) : hTup n hs (.tup ds) ρ = if ds.length = n then hs ds ρ else none := (rfl)
@[simp] theorem hCons_ap (h : D → Rho → Option Rho) (hs : List D → Rho → Option Rho) (d : D) (r : List D) (ρ : Rho) : hCons h hs (d :: r) ρ = (h d ρ).bind fun ρ1 => hs r ρ1 := (rfl)
@[simp] theorem hNil_ap (ρ : Rho) : hNil [] ρ = some ρ := (rfl)
theorem hSub_ap (i : Nat) (g : Em) (d : D) (ρ : Rho) : hSub i g d ρ = ((isLs ρ i).bind fun _ => (g ρ).bind fun p => (rd p.2 p.1).bind fun k => (isLs p.2 i).bind fun _ => putAt i p.2 k d) := (rfl)
@[simp] theorem isT_non (T : String)  : isT T (.non) = ("NoneType" == T || (T == "int" && "NoneType" == "bool")) := rfl
@[simp] theorem isT_bl (T : String) (b : Bool) : isT T (.bl b) = ("bool" == T || (T == "int" && "bool" == "bool")) := rfl
@[simp] theorem isT_int (T : String) (b : Int) : isT T (.int b) = ("int" == T || (T == "int" && "int" == "bool")) := rfl
@[simp] theorem isT_str (T : String) (b : List Nat) : isT T (.str b) = ("str" == T || (T == "int" && "str" == "bool")) := rfl
@[simp] theorem isT_tup (T : String) (b : List D) : isT T (.tup b) = ("tuple" == T || (T == "int" && "tuple" == "bool")) := rfl
@[simp] theorem isT_lst (T : String) (b : List D) : isT T (.lst b) = ("list" == T || (T == "int" && "list" == "bool")) := rfl
@[simp] theorem isT_dic (T : String) (b : List (DK × D)) : isT T (.dic b) = ("dict" == T || (T == "int" && "dict" == "bool")) := rfl
@[simp] theorem cEq_bl (i j : Bool) : cEq (.bl i) (.bl j) = some (.bl (decide (i = j))) := by
  cases i <;> cases j <;> simp [cEq, D.ok, D.eq, D.flat, D.dep]
@[simp] theorem cNe_bl (i j : Bool) : cNe (.bl i) (.bl j) = some (.bl (!decide (i = j))) := by
  cases i <;> cases j <;> simp [cNe, D.ok, D.eq, D.flat, D.dep]
/-! dicts by key -/
theorem lookK_app {κ : Type} [DecidableEq κ] (xs ys : List (κ × D)) (k : κ) : lookK (xs ++ ys) k = (lookK xs k).or (lookK ys k) := by
  unfold lookK
  rw [List.find?_append]
  cases List.find? (fun kv => decide (kv.fst = k)) xs <;> rfl
theorem lookK_none {κ : Type} [DecidableEq κ] {xs : List (κ × D)} {k : κ} (h : ∀ p ∈ xs, p.1 ≠ k) : lookK xs k = none := by
  unfold lookK
  rw [List.find?_eq_none.mpr (fun p m => by simpa using h p m)]; rfl
theorem putD_new {κ : Type} [DecidableEq κ] {xs : List (κ × D)} {k : κ} {v : D} (h : ∀ p ∈ xs, p.1 ≠ k) : putD xs k v = xs ++ [(k, v)] := by
  unfold putD
  rw [if_neg]
  simp only [List.any_eq_true, decide_eq_true_eq, not_exists, not_and]
  exact fun p m => h p m
theorem lookK_new {κ : Type} [DecidableEq κ] {xs : List (κ × D)} {k : κ} {v : D} (h : ∀ p ∈ xs, p.1 ≠ k) : lookK (xs ++ [(k, v)]) k = some v := by
  rw [lookK_app, lookK_none h]
  simp [lookK]
theorem lookK_range {key : Nat → Int} {v : Nat → D} {n g : Nat} (hg : g < n) (inj : ∀ a b, key a = key b → a = b) : lookK ((List.range n).map fun g => (DK.i (key g), v g)) (.i (key g)) = some (v g) := by
  induction n with
  | zero => omega
  | succ n ih =>
    rw [List.range_succ, List.map_append, lookK_app]
    by_cases q : g = n
    · subst q
      rw [lookK_none fun p m => ?_]
      · simp [lookK]
      · simp only [List.mem_map, List.mem_range] at m
        obtain ⟨a, ha, rfl⟩ := m
        intro z
        injection z with z
        have := inj _ _ z
        omega
    · rw [ih (by omega)]; rfl
theorem lookK_range_none {key : Nat → Int} {v : Nat → D} {n : Nat} {r : Int} (h : ∀ g, g < n → key g ≠ r) : lookK ((List.range n).map fun g => (DK.i (key g), v g)) (.i r) = none := lookK_none fun p m => by
  simp only [List.mem_map, List.mem_range] at m
  obtain ⟨a, ha, rfl⟩ := m
  intro z
  injection z with z
  exact h a ha z
theorem putAt_ap (i : Nat) (ρ : Rho) (k d : D) : putAt i ρ k d = (match isLs ρ i with
  | some (s, ds) => (match k with
    | .int n => (ixN ds.length n).map fun j => ρ.set i (s.w (.ls (ds.set j d)))
    | _ => none)
  | none => (isDi ρ i).bind fun s => (k.k?).bind fun kk => if s.2.length < big then some (ρ.set i (s.1.w (.di (putD s.2 kk d)))) else none) := (rfl)
@[simp] theorem kk_int (n : Int) : D.k? (.int n) = some (.i n) := rfl
@[simp] theorem kk_str (n : List Nat) : D.k? (.str n) = some (.s n) := rfl
@[simp] theorem cGet2_int (kvs : List (DK × D)) (n : Int) (x : D) : cGet2 (.dic kvs) (.int n) x = some ((lookK kvs (.i n)).getD x) := rfl
@[simp] theorem cIx_dic (kvs : List (DK × D)) (n : Int) : cIx (.dic kvs) (.int n) = lookK kvs (.i n) := rfl
/-! the rest by rfl -/
@[simp] theorem eC_ap (d : D) (ρ : Rho) : eC d ρ = (some (.val d, ρ)) := (rfl)
@[simp] theorem bOf_ap (f : Em) (ρ : Rho) : bOf f ρ = ((f ρ).bind fun p => match p.1 with
  | .val (.bl b) => some (b, p.2)
  | _ => none) := (rfl)
@[simp] theorem eOp_ap (c : D → D → Option D) (f g : Em) (ρ : Rho) : eOp c f g ρ = ((f ρ).bind fun p => (g p.2).bind fun q => (rd q.2 p.1).bind fun x => (rd q.2 q.1).bind fun y => (c x y).map fun z => (.val z, q.2)) := (rfl)
@[simp] theorem nVal_ap (f : Em) (ρ : Rho) : nVal f ρ = ((f ρ).bind fun p => (pu p.2 p.1).map fun d => (.p d, p.2)) := (rfl)
@[simp] theorem eFrz_ap (f : Rho → Option (T × Rho)) (ρ : Rho) : eFrz f ρ = ((f ρ).map fun p => (.val p.1.d, p.2)) := (rfl)
@[simp] theorem bAnd_ap (f g : Bm) (ρ : Rho) : bAnd f g ρ = ((f ρ).bind fun p => if p.1 then g p.2 else some (false, p.2)) := (rfl)
@[simp] theorem bOr_ap (f g : Bm) (ρ : Rho) : bOr f g ρ = ((f ρ).bind fun p => if p.1 then some (true, p.2) else g p.2) := (rfl)
@[simp] theorem bNot_ap (f : Bm) (ρ : Rho) : bNot f ρ = ((f ρ).map fun p => (!p.1, p.2)) := (rfl)
@[simp] theorem eAnd_ap (f g : Em) (ρ : Rho) : eAnd f g ρ = ((f ρ).bind fun p => match p.1 with
  | .val (.bl true) => g p.2
  | .val (.bl false) => some (.val (.bl false), p.2)
  | _ => none) := (rfl)
@[simp] theorem eOr_ap (f g : Em) (ρ : Rho) : eOr f g ρ = ((f ρ).bind fun p => match p.1 with
  | .val (.bl false) => g p.2
  | .val (.bl true) => some (.val (.bl true), p.2)
  | _ => none) := (rfl)
@[simp] theorem eNot_ap (f : Em) (ρ : Rho) : eNot f ρ = ((f ρ).bind fun p => match p.1 with
  | .val (.bl b) => some (.val (.bl !b), p.2)
  | _ => none) := (rfl)
@[simp] theorem eIf_ap (f : Bm) (g h : Em) (ρ : Rho) : eIf f g h ρ = ((f ρ).bind fun p => if p.1 then g p.2 else h p.2) := (rfl)
@[simp] theorem nIf_ap (f : Bm) (g h : Rho → Option (T × Rho)) (ρ : Rho) : nIf f g h ρ = ((f ρ).bind fun p => if p.1 then g p.2 else h p.2) := (rfl)
@[simp] theorem eChain_ap (c1 c2 : D → D → Option D) (f g h : Em) (ρ : Rho) : eChain c1 c2 f g h ρ = ((f ρ).bind fun p => (g p.2).bind fun q => (rd q.2 p.1).bind fun x => (rd q.2 q.1).bind fun y => (c1 x y).bind fun z => match z with
  | .bl true => (h q.2).bind fun r => (rd r.2 q.1).bind fun y' => (rd r.2 r.1).bind fun w => (c2 y' w).map fun u => (.val u, r.2)
  | .bl false => some (.val (.bl false), q.2)
  | _ => none) := (rfl)
@[simp] theorem aNil_ap  (ρ : Rho) : aNil  ρ = (some ([], ρ)) := (rfl)
@[simp] theorem aCons_ap (f : Em) (g : Am) (ρ : Rho) : aCons f g ρ = ((f ρ).bind fun p => (g p.2).map fun q => (p.1 :: q.1, q.2)) := (rfl)
@[simp] theorem eTup_ap (g : Am) (ρ : Rho) : eTup g ρ = ((g ρ).bind fun p => (pus p.2 p.1).bind fun ds => if ds.length ≤ big then some (.val (.tup ds), p.2) else none) := (rfl)
@[simp] theorem nLst_ap (g : Am) (ρ : Rho) : nLst g ρ = ((g ρ).bind fun p => (pus p.2 p.1).bind fun ds => if ds.length ≤ big then some (.ls ds, p.2) else none) := (rfl)
@[simp] theorem nDic0_ap  (ρ : Rho) : nDic0  ρ = (some (.di [], ρ)) := (rfl)
@[simp] theorem nDit0_ap  (ρ : Rho) : nDit0  ρ = (some (.dt [], ρ)) := (rfl)
@[simp] theorem sNil_ap  (ρ : Rho) : sNil  ρ = (some (.nx ρ)) := (rfl)
@[simp] theorem sSeq_ap (g h : Sm) (ρ : Rho) : sSeq g h ρ = ((g ρ).bind fun o => match o with
  | .nx ρ1 => h ρ1
  | .rt t ρ1 => some (.rt t ρ1)
  | .bk ρ1 => some (.bk ρ1)
  | .ct ρ1 => some (.ct ρ1)) := (rfl)
@[simp] theorem sBreak_ap  (ρ : Rho) : sBreak  ρ = (some (.bk ρ)) := (rfl)
@[simp] theorem sCont_ap  (ρ : Rho) : sCont  ρ = (some (.ct ρ)) := (rfl)
@[simp] theorem sE_ap (f : Em) (ρ : Rho) : sE f ρ = ((f ρ).map fun p => .nx p.2) := (rfl)
@[simp] theorem sRet_ap (f : Rho → Option (T × Rho)) (ρ : Rho) : sRet f ρ = ((f ρ).map fun p => .rt p.1 p.2) := (rfl)
@[simp] theorem sRetN_ap  (ρ : Rho) : sRetN  ρ = (some (.rt (.p .non) ρ)) := (rfl)
@[simp] theorem sIf_ap (f : Bm) (g h : Sm) (ρ : Rho) : sIf f g h ρ = ((f ρ).bind fun p => if p.1 then g p.2 else h p.2) := (rfl)
@[simp] theorem sAsg_ap (i : Nat) (f : Rho → Option (T × Rho)) (ρ : Rho) : sAsg i f ρ = ((f ρ).bind fun p => (setV i p.1 p.2).map .nx) := (rfl)
@[simp] theorem sPar_ap (i j : Nat) (g : Am) (ρ : Rho) : sPar i j g ρ = ((g ρ).bind fun p => (pus p.2 p.1).bind fun ds => match ds with
  | [d, e] => (setV i (.p d) p.2).bind fun ρ1 => (setV j (.p e) ρ1).map .nx
  | _ => none) := (rfl)
@[simp] theorem sT_ap (f : Em) (h : D → Rho → Option Rho) (ρ : Rho) : sT f h ρ = ((f ρ).bind fun p => (pu p.2 p.1).bind fun d => (h d p.2).map .nx) := (rfl)
@[simp] theorem sFor_ap (f : Im) (h : D → Rho → Option Rho) (b : Sm) (ρ : Rho) : sFor f h b ρ = ((f ρ).bind fun p => forF h b p.1 p.2) := (rfl)
@[simp] theorem iRng1_ap (g : Am) (ρ : Rho) : iRng1 g ρ = ((g ρ).bind fun p => (pus p.2 p.1).bind fun ds => match ds with
  | [.int j] => if rgOk j then some (rgD 0 j.toNat, p.2) else none
  | _ => none) := (rfl)
@[simp] theorem iRng2_ap (g : Am) (ρ : Rho) : iRng2 g ρ = ((g ρ).bind fun p => (pus p.2 p.1).bind fun ds => match ds with
  | [.int i, .int j] => if rgOk i && rgOk j then some (rgD i (j - i).toNat, p.2) else none
  | _ => none) := (rfl)
@[simp] theorem iSeq_ap (f : Em) (ρ : Rho) : iSeq f ρ = ((f ρ).bind fun p => (pu p.2 p.1).bind fun d => (seqD d).map fun ds => (ds, p.2)) := (rfl)
@[simp] theorem nLc_ap (own : List Nat) (f : Im) (h : D → Rho → Option Rho) (ifs : Bm) (elt : Em) (ρ : Rho) : nLc own f h ifs elt ρ = ((f ρ).bind fun p => if p.1.length ≤ big then (wipeS own p.2).bind fun ρw => (lcF own h ifs elt p.1 ρw).map fun r => (.ls r.1, back p.2 r.2 own) else none) := (rfl)
@[simp] theorem bYes_ap  (ρ : Rho) : bYes  ρ = (some (true, ρ)) := (rfl)
@[simp] theorem oNone_ap  (ρ : Rho) : oNone  ρ = (some (none, ρ)) := (rfl)
@[simp] theorem oSome_ap (f : Em) (ρ : Rho) : oSome f ρ = ((f ρ).bind fun p => match rd p.2 p.1 with
  | some (.int i) => some (some i, p.2)
  | _ => none) := (rfl)
@[simp] theorem eSl_ap (f : Em) (l h : Om) (ρ : Rho) : eSl f l h ρ = ((f ρ).bind fun p => (l p.2).bind fun q => (h q.2).bind fun r => (rd r.2 p.1).bind fun d => (cSl d q.1 r.1).map fun z => (.val z, r.2)) := (rfl)
@[simp] theorem nSl_ap (f : Em) (l h : Om) (ρ : Rho) : nSl f l h ρ = ((f ρ).bind fun p => (l p.2).bind fun q => (h q.2).bind fun r => (rd r.2 p.1).bind fun d => match d with
  | .lst ds => some (.ls (cutD ds q.1 r.1), r.2)
  | _ => none) := (rfl)
@[simp] theorem eCb_ap (c : List D → Option D) (g : Am) (ρ : Rho) : eCb c g ρ = ((g ρ).bind fun p => (rds p.2 p.1).bind fun ds => (c ds).map fun z => (.val z, p.2)) := (rfl)
@[simp] theorem nCb_ap (c : List D → Option (List D)) (g : Am) (ρ : Rho) : nCb c g ρ = ((g ρ).bind fun p => (rds p.2 p.1).bind fun ds => (c ds).map fun z => (.ls z, p.2)) := (rfl)
@[simp] theorem eIsi_ap (T : String) (f : Em) (ρ : Rho) : eIsi T f ρ = ((f ρ).bind fun p => (rd p.2 p.1).bind fun d => match d with
  | .obj _ _ => none
  | .dit _ => none
  | .fn _ => none
  | d => some (.val (.bl (isT T d)), p.2)) := (rfl)
@[simp] theorem eMt_ap (i : Nat) (m : List D → List D → Option (D × List D)) (g : Am) (ρ : Rho) : eMt i m g ρ = ((isLs ρ i).bind fun _ => (g ρ).bind fun p => (pus p.2 p.1).bind fun es => (isLs p.2 i).bind fun s => (m s.2 es).map fun r => (.val r.1, p.2.set i (s.1.w (.ls r.2)))) := (rfl)
@[simp] theorem eMt0_ap (i : Nat) (m : List D → List D → Option (D × List D)) (ρ : Rho) : eMt0 i m ρ = ((isLs ρ i).bind fun s => (m s.2 []).map fun r => (.val r.1, ρ.set i (s.1.w (.ls r.2)))) := (rfl)
@[simp] theorem sPut_ap (i : Nat) (f g : Em) (ρ : Rho) : sPut i f g ρ = ((f ρ).bind fun p => (pu p.2 p.1).bind fun d => if (isLs p.2 i).isSome || (isDi p.2 i).isSome then (g p.2).bind fun q => (rd q.2 q.1).bind fun k => if (isLs p.2 i).isSome == (isLs q.2 i).isSome then (putAt i q.2 k d).map .nx else none else none) := (rfl)
@[simp] theorem nCallO_ap (n j : Nat) (f : Rho → Option (T × Rho)) (g : Am) (ρ : Rho) : nCallO n j f g ρ = ((g ρ).bind fun p => (argO p.2 j p.1).bind fun ss => (refAt j p.1).bind fun i => if ss.length = n then (f ss).bind fun r => (backO i j p.2 r.2).map fun ρ2 => (r.1, ρ2) else none) := (rfl)
@[simp] theorem iKey_ap (i : Nat) (ρ : Rho) : iKey i ρ = ((dicS i ρ).map fun p => (keysD p.1, p.2)) := (rfl)
@[simp] theorem eGet2_ap (f g h : Em) (ρ : Rho) : eGet2 f g h ρ = ((f ρ).bind fun p => (rd p.2 p.1).bind fun d0 => match d0 with
  | .dic _ => (g p.2).bind fun q => (h q.2).bind fun r => (rd r.2 p.1).bind fun d => (rd r.2 q.1).bind fun k => (pu r.2 r.1).bind fun x => (cGet2 d k x).map fun z => (.val z, r.2)
  | _ => none) := (rfl)
@[simp] theorem iEnu_ap (g : Am) (ρ : Rho) : iEnu g ρ = ((g ρ).bind fun p => (pus p.2 p.1).bind fun es => match es with
  | [.lst ds] => some (enumD ds, p.2)
  | _ => none) := (rfl)
@[simp] theorem mNil_ap  (ρ : Rho) : mNil  ρ = (some ([], ρ)) := (rfl)
@[simp] theorem mCons_ap (f : Rho → Option (T × Rho)) (g : Mm) (ρ : Rho) : mCons f g ρ = ((f ρ).bind fun p => (g p.2).map fun q => (p.1 :: q.1, q.2)) := (rfl)
@[simp] theorem sPars_ap (is : List Nat) (g : Mm) (ρ : Rho) : sPars is g ρ = ((g ρ).bind fun p => (setVs is p.1 p.2).map .nx) := (rfl)
@[simp] theorem nCallF_ap (f : Rho → Option (T × Rho)) (g : Rho → Option (T × Rho)) (ρ : Rho) : nCallF f g ρ = ((g ρ).bind fun p => (f [.pin p.1]).map fun r => (r.1, p.2)) := (rfl)
@[simp] theorem eUn_ap (c : D → Option D) (f : Em) (ρ : Rho) : eUn c f ρ = ((f ρ).bind fun p => (rd p.2 p.1).bind fun d => (c d).map fun z => (.val z, p.2)) := (rfl)
end G

set_option maxHeartbeats 4000000
/-! Ly18: sorted(set(text)). -/
namespace G
open PySem PySem.Spec PyProof.Rows L2

def kT (e : Int × Value) : Str := match e.2 with
  | .str k _ => k
  | _ => Str.empty
def GT (w : World) (e : Int × Value) : Prop := ∃ k u, e.2 = Value.str k u ∧ e.1 = hashStr w k
/-- the set of texts at a: M its members, n their number -/
def TR (w : World) (h : Heap) (a : Addr) (M : Str → Bool) (n : Nat) : Prop :=
  ∃ ob en ep tb, h.get? a = some ob ∧ ob.ExactSet ∧ ob.data = .set en ep tb ∧ (∀ e ∈ en.toList, GT w e) ∧ (en.toList.map kT).Nodup ∧ (∀ k, M k = true ↔ k ∈ en.toList.map kT) ∧
    en.size < scanBound ∧ tb.fits en.size = true ∧ en.size = n ∧ Ris tb.place.toList ∧ (w.params.followText "set-order" = true ∨ tb.led = true)
section
variable {P : Program} {w : World} {h h' : Heap} {a : Addr} {M : Str → Bool} {n : Nat}
theorem TR.keep (R : TR w h a M n) (k : ∀ o, h.get? a = some o → h'.get? a = some o) : TR w h' a M n :=
  let ⟨ob, en, ep, tb, e, r⟩ := R
  ⟨ob, en, ep, tb, k ob e, r⟩
theorem TR.same {M' : Str → Bool} (R : TR w h a M n) (e : ∀ k, M' k = M k) : TR w h a M' n := by
  rw [show M' = M from funext e]; exact R
theorem t_elems {l : List (Int × Value)} (g : ∀ e ∈ l, GT w e) : ElemsOf (strKind P w) l := fun e m => by
  obtain ⟨k, u, e1, e2⟩ := g e m
  exact ⟨⟨k, by rw [e1]; exact PySem.Froz.is_str k u, e2⟩, by rw [e1]; rfl⟩
theorem t_is {e : Int × Value} (g : GT w e) (k : Str) : (strKind P w).is k e.2 = true ↔ kT e = k := by
  obtain ⟨k0, u, e1, _⟩ := g
  unfold kT
  rw [e1]
  constructor
  · intro z
    obtain ⟨t, q⟩ := Value.isStrOf_shape (x := k) (v := .str k0 u) z
    injection q
  · intro z
    rw [show k0 = k from z]
    exact PySem.Froz.is_str k u
theorem t_mem {l : List (Int × Value)} (g : ∀ e ∈ l, GT w e) (k : Str) : k ∈ l.map kT ↔ ∃ e ∈ l, (strKind P w).is k e.2 = true := by
  rw [List.mem_map]
  exact ⟨fun ⟨e, m, q⟩ => ⟨e, m, (t_is (g e m) k).mpr q⟩, fun ⟨e, m, q⟩ => ⟨e, m, (t_is (g e m) k).mp q⟩⟩
end
section
variable {P : Program} {w : World} {A : Around} {E : Value → Shared → Prop} {s : Shared} {a : Addr} {M : Str → Bool} {n : Nat}
/-- the end of an add: the new entries are laid down, the table relaid if it is too full -/
theorem tr_tail {g : Bool → Sem Unit} (hg : ∀ (b : Bool) (s1 : Shared) (Q' : Unit → Shared → Prop), Q' () s1 → wpAny (model P w) A (g b) Q' E s1) {ob : Obj} {en : Array (Int × Value)} {ep : Nat} {tb : SetTable}
    (e0 : s.heap.get? a = some ob) (ex : ob.ExactSet) (dt : ob.data = .set en ep tb) {en1 : Array (Int × Value)} {tb2 : SetTable} {M' : Str → Bool} (g1 : ∀ e ∈ en1.toList, GT w e) (nd : (en1.toList.map kT).Nodup)
    (mm : ∀ k, M' k = true ↔ k ∈ en1.toList.map kT) (room : en1.size < scanBound) (ft : tb2.fits en1.size = true) (ri : Ris tb2.place.toList) (le : w.params.followText "set-order" = true ∨ tb2.led = true) {dummy : Bool} {R : Option Bool → Shared → Prop}
    (k : ∀ h', Heap.SameBut a s.heap h' → TR w h' a M' en1.size → R (some true) { s with heap := h' }) :
    wpAny (model P w) A (do
      storeSet a en1 tb2
      if (!dummy && tb2.tooFull) = true then do
        g (relayAll tb2 en1 (SetTable.grown en1.size)).2.2
        storeSet a (relayAll tb2 en1 (SetTable.grown en1.size)).1 (relayAll tb2 en1 (SetTable.grown en1.size)).2.1
        pure (some true)
      else pure (some true)) R E s := by
  have st1 := store_at (es' := en1) (t' := tb2) e0 dt
  have but1 := Heap.SameBut.update s.heap a (Obj.putSet en1 tb2)
  refine wpAny_bind (wpAny_storeSet_of e0 dt ?_ (fits_of_scanBound room))
  split
  · have perm := relayAll_perm tb2 en1 (SetTable.grown en1.size)
    have ft3 := relayAll_fits tb2 en1 (SetTable.grown en1.size)
    have ri3 := relayAll_ris tb2 en1 (SetTable.grown en1.size)
    have le3 := relayAll_led tb2 en1 (SetTable.grown en1.size)
    generalize relayAll tb2 en1 (SetTable.grown en1.size) = Z at perm ft3 ri3 le3 ⊢
    obtain ⟨en2, tb3, gave⟩ := Z
    dsimp only at perm ft3 ri3 le3 ⊢
    have sz : en2.size = en1.size := by rw [← Array.length_toList, perm.length_eq, Array.length_toList]
    have room2 : en2.size < scanBound := by omega
    refine wpAny_bind (hg _ _ _ (wpAny_bind (wpAny_storeSet_of st1 rfl ?_ (fits_of_scanBound room2))))
    have st2 := store_at (es' := en2) (t' := tb3) st1 rfl
    refine wpAny_pure (k _ (but1.trans (Heap.SameBut.update _ a _)) ⟨_, en2, _, tb3, st2, ex, rfl, fun e m => g1 e (perm.mem_iff.mp m), (perm.map kT).nodup_iff.mpr nd, fun x => (mm x).trans (perm.map kT).mem_iff.symm, room2, ft3, sz, ri3, ?_⟩)
    exact le.imp_right fun z => by rw [le3]; exact z
  · exact wpAny_pure (k _ but1 ⟨_, en1, _, tb2, st1, ex, rfl, g1, nd, mm, room, ft, rfl, ri, le⟩)
theorem tr_add {x : Str} {u : Tok} {Q : Bool → Shared → Prop} (R : TR w s.heap a M n) (room : n + 1 < scanBound)
    (hQ : ∀ h', Heap.SameBut a s.heap h' → TR w h' a (fun j => M j || decide (j = x)) (if M x = true then n else n + 1) → Q (!M x) { s with heap := h' }) :
    wpAny (model P w) A (setAddHashed a (.str x u) ((strKind P w).hash x)) Q E s := by
  obtain ⟨ob, en, ep, tb, e0, ex, dt, g, nd, mm, hb, ft, sz, ri, le⟩ := R
  have key : (strKind P w).is x (.str x u) = true := PySem.Froz.is_str x u
  have scan : (Value.str x u).scannable = true := rfl
  have elems : ElemsOf (strKind P w) en.toList := t_elems g
  unfold setAddHashed setAddHashedIn
  refine wpAny_holding (wpAny_bind (wpAny_setState_of e0 dt ft ?_))
  dsimp only
  rw [byScan_of scan hb elems]
  simp only [↓reduceIte]
  unfold setAddByScan
  refine wpAny_bind (wpAny_bind (wpAny_rule (wpAny_bind (wpAny_setScan_of key e0 dt ft elems ?_))))
  cases found : List.findIdx? (fun e => (strKind P w).is x e.2) en.toList with
  | some j =>
    dsimp only
    obtain ⟨hj, pj, _⟩ := List.findIdx?_eq_some_iff_getElem.mp found
    have inM : M x = true := (mm x).mpr ((t_mem (P := P) g x).mpr ⟨en.toList[j], List.getElem_mem hj, pj⟩)
    have q := hQ s.heap (Heap.SameBut.refl a s.heap) ⟨ob, en, ep, tb, e0, ex, dt, g, nd, fun i => by
      rw [Bool.or_eq_true, decide_eq_true_eq, ← mm i]
      exact ⟨fun z => z.elim id fun z => by rw [z]; exact inM, .inl⟩, hb, ft, by rw [if_pos inM]; exact sz, ri, le⟩
    rw [inM] at q
    exact wpAny_pure (wpAny_pure q)
  | none =>
    dsimp only
    have notin : x ∉ en.toList.map kT := fun z => by
      obtain ⟨e, m, q⟩ := (t_mem (P := P) g x).mp z
      have c := List.findIdx?_eq_none_iff.mp found e m
      rw [q] at c; cases c
    have inM : M x = false := by
      cases q : M x with
      | false => rfl
      | true => exact absurd ((mm x).mp q) notin
    have give : ∀ (b : Bool) {s1 : Shared} {Q' : Unit → Shared → Prop}, Q' () s1 → wpAny (model P w) A (match b with | true => rule "set.scan.the-table-gave-way" | false => pure ()) Q' E s1 := by
      intro b s1 Q' q
      cases b
      · exact wpAny_pure q
      · exact wpAny_rule q
    have perm := layNew_perm tb en ((strKind P w).hash x) (.str x u)
    have ft1 := layNew_fits tb en ((strKind P w).hash x) (.str x u)
    have ri1 := layNew_ris tb en ((strKind P w).hash x) (.str x u) ri
    have le1 := layNew_led tb en ((strKind P w).hash x) (.str x u)
    generalize layNew tb en ((strKind P w).hash x) (.str x u) = Z at perm ft1 ri1 le1 ⊢
    obtain ⟨en1, tb1, dummy, gave⟩ := Z
    dsimp only at perm ft1 ri1 le1 ⊢
    rw [Array.toList_push] at perm
    have perm2 : en1.toList.Perm (((strKind P w).hash x, Value.str x u) :: en.toList) := perm.trans (List.perm_append_singleton _ _)
    have permk : (en1.toList.map kT).Perm (x :: en.toList.map kT) := perm2.map kT
    have g1 : ∀ e ∈ en1.toList, GT w e := fun e m => by
      rcases List.mem_cons.mp (perm2.mem_iff.mp m) with z | z
      · rw [z]; exact ⟨x, u, rfl, rfl⟩
      · exact g e z
    have nd1 : (en1.toList.map kT).Nodup := permk.nodup_iff.mpr (List.nodup_cons.mpr ⟨notin, nd⟩)
    have mm1 : ∀ i, (M i || decide (i = x)) = true ↔ i ∈ en1.toList.map kT := fun i => by
      rw [Bool.or_eq_true, decide_eq_true_eq, mm i, permk.mem_iff, List.mem_cons]
      exact Or.comm
    have sz1 : en1.size = n + 1 := by rw [← Array.length_toList, perm2.length_eq, List.length_cons, Array.length_toList, sz]
    have room1 : en1.size < scanBound := by omega
    have led1 : w.params.followText "set-order" = true ∨ tb1.led = true := le.imp_right fun z => by rw [le1]; exact z
    have last : ∀ h', Heap.SameBut a s.heap h' → TR w h' a (fun j => M j || decide (j = x)) en1.size → Q true { s with heap := h' } := fun h' sb r => by
      have q := hQ h' sb
      rw [inM] at q
      rw [sz1] at r
      exact q r
    refine wpAny_bind (give _ ?_)
    split
    · refine wpAny_bind ?_
      rw [hashByValue_scannable 8 scan]
      refine wpAny_pure (tr_tail ?_ e0 ex dt g1 nd1 mm1 room1 ?_ ?_ ?_ ?_)
      · intro b s1 Q' q
        cases b
        · exact wpAny_pure q
        · exact wpAny_rule q
      · first | (split <;> first | exact ft1 | exact SetTable.fits_plain_off ft1) | exact ft1
      · first | (split <;> exact ri1) | exact ri1
      · first | (split <;> exact led1) | exact led1
      · intro h' sb r; dsimp only; exact wpAny_pure (last h' sb r)
    · refine wpAny_bind (wpAny_pure ?_)
      simp only [↓reduceIte]
      refine tr_tail ?_ e0 ex dt g1 nd1 mm1 room1 ft1 ri1 led1 ?_
      · intro b s1 Q' q
        cases b
        · exact wpAny_pure q
        · exact wpAny_rule q
      · intro h' sb r; dsimp only; exact wpAny_pure (last h' sb r)
end
end G

set_option maxHeartbeats 4000000
/-! Ly19: set(text) made, sorted. -/
namespace G
open PySem PySem.Spec PyProof.Rows L2
abbrev sg (c : Nat) : Str := PySem.Froz.sing c
/-- the members of the first i signs -/
def mT (cs : List Nat) : Str → Bool := fun k => decide (k ∈ cs.map sg)
section
variable {P : Program} {w : World} {A : Around} {R : Result → Shared → Prop} {I a : Addr} {fp wr : List Addr} {n : Nat} {x : Str} {St : Nat → Heap → Prop}
theorem t_loop (W : Walks P w A.in1 I fp wr n (SignAt x) St) (hn : n = x.cps.size) (haf : a ∉ fp) (room : n + 1 < scanBound) : ∀ (m i : Nat) (s : Shared), n - i = m → i ≤ n → St i s.heap → (∃ c, c ≤ i ∧ TR w s.heap a (mT (x.cps.toList.take i)) c) →
    (∀ h' tk c, (∀ b o, b ∉ a :: wr → s.heap.get? b = some o → h'.get? b = some o) → c ≤ n → TR w h' a (mT x.cps.toList) c → R (.ok (.ret .none)) { s with heap := h', toks := tk }) →
    codeAny (model P w) A (.builtin "set.update.loop" ⟨[.ref a, .ref I], []⟩) R s := by
  have haw : a ∉ wr := fun z => haf (W.sub _ z)
  intro m
  induction m with
  | zero =>
    intro i s hm hi hst ⟨c, hc, hS⟩ k
    have hin : i = n := by omega
    refine codeAny_builtin F.entry_set_update_loop ?_
    rw [Around.under_plainId F.plain_set_update_loop _]
    refine wpAny_bind (m := pyNext (.ref I)) (W.done s _ _ (by rw [← hin]; exact hst) fun h' tk hk => ?_)
    rw [List.take_of_length_le (by rw [hin, hn]; simp)] at hS
    show wpAny _ A.in1 (ret Value.none) _ _ _
    exact wpAny_pure (k h' tk c (fun b o hb e => hk b o (fun z => hb (List.mem_cons_of_mem _ z)) e) (by omega) (hS.keep fun o e => hk a o haw e))
  | succ m ih =>
    intro i s hm hi hst ⟨c, hc, hS⟩ k
    have hlt : i < n := by omega
    refine codeAny_builtin F.entry_set_update_loop ?_
    rw [Around.under_plainId F.plain_set_update_loop _]
    refine wpAny_bind (m := pyNext (.ref I)) (W.item i s _ _ hlt hst fun v h1 tk hP hst1 hk1 => ?_)
    obtain ⟨d, t, hd, rfl⟩ := hP
    have hS1 : TR w h1 a (mT (x.cps.toList.take i)) c := hS.keep fun o e => hk1 a o haw e
    show wpAny _ A.in1 (holding [Value.str ⟨#[d]⟩ t] (setAdd a (.str ⟨#[d]⟩ t)) >>= _) _ _ _
    refine wpAny_bind (wpAny_holding ?_)
    unfold setAdd
    refine wpAny_holding (wpAny_bind ((strKind P w).pyHash (k := sg d) (PySem.Froz.is_str _ _) ?_))
    refine tr_add (s := { s with heap := h1, toks := tk + 1 }) hS1 (by omega) fun h2 sb hS2 => ?_
    have hd' : x.cps.toList[i]? = some d := by rw [Array.getElem?_toList]; exact hd
    have hS3 : TR w h2 a (mT (x.cps.toList.take (i + 1))) (if mT (x.cps.toList.take i) (sg d) = true then c else c + 1) := hS2.same fun j => by
      unfold mT
      rw [List.take_add_one, hd']
      simp [List.mem_append]
      rfl
    have hc3 : (if mT (x.cps.toList.take i) (sg d) = true then c else c + 1) ≤ i + 1 := by split <;> omega
    refine wpAny_pure ⟨plainId_quiet F.plain_set_update_loop _, ih (i + 1) _ (by omega) hlt (W.frame _ h1 _ hst1 fun b hb o e => ?_) ⟨_, hc3, hS3⟩ fun h3 tk3 c3 hk3 hc4 hS4 => ?_⟩
    · rw [sb.2 b fun z => haf (by rw [← z]; exact hb)]; exact e
    · refine k h3 tk3 c3 (fun b o hb e => hk3 b o hb ?_) hc4 hS4
      show h2.get? b = some o
      rw [sb.2 b fun z => hb (by rw [z]; exact List.mem_cons_self)]
      exact hk1 b o (fun z => hb (List.mem_cons_of_mem _ z)) e
end
theorem tr_new {w : World} {h : Heap} {a : Addr} (e : h.get? a = some { cls := .type "set", dict := none, data := .set #[] 0 (.fresh 0 0 (!w.params.followText "set-order")) }) : TR w h a (mT []) 0 := by
  refine ⟨_, #[], 0, _, e, ⟨rfl, rfl, rfl⟩, rfl, fun e he => by simp at he, by simp, fun k => by simp [mT], by decide, by rfl, rfl, List.Pairwise.nil, ?_⟩
  show _ ∨ (!w.params.followText "set-order") = true
  cases w.params.followText "set-order"
  · exact .inr rfl
  · exact .inl rfl
section
variable {P : Program} {w : World} {A : Around} {E : Value → Shared → Prop} {s : Shared} {x : Str} {u : Tok}
theorem call_set_txt {Q : Value → Shared → Prop} (hh : A.handled = none) (hb : x.cps.size + 1 < scanBound)
    (h : ∀ (h' : Heap) (tk c : Nat), TR w h' s.heap.objs.size (mT x.cps.toList) c → c ≤ x.cps.size → (∀ b o, s.heap.get? b = some o → h'.get? b = some o) → Q (.ref s.heap.objs.size) { s with heap := h', toks := tk }) :
    wpAny (model P w) A (call (.type "set") [.str x u]) Q E s := by
  obtain ⟨c, tl, hmro⟩ := F.called_set.mro
  have hmade := F.called_set.made
  have hsub := F.called_set.sub
  refine wpAny_call (codeAny_of_tree ?_)
  show wpAny _ _ (callAny (.type "set") _) _ _ _
  refine wpAny_pure ⟨Code.quiet_builtin _ (by decide +kernel), codeAny_builtin F.entry_type_call ?_⟩
  rw [Around.under_plain (weight_type_call_type "set" [.str x u] []) rfl]
  have h1 := F.called_set.notType
  have h2 := F.called_set.canCreate
  have hct := F.typeCall_set_1 (.str x u)
  repeat (any_goals (first | assumption | wp_step))
  refine codeAny_mono (code_set_led1 (.str x u) (E := E) (Q₁ := fun o1 s1 => o1 = .ref s.heap.objs.size ∧ s1 = { s with heap := s.heap.push { cls := .type "set", dict := none, data := .set #[] 0 (.fresh 0 0 (!w.params.followText "set-order")) } }) ⟨rfl, rfl⟩) fun r s1 hr => ?_
  cases r with
  | error e => exact hr
  | ok fl =>
    cases fl with
    | ret o1 =>
      obtain ⟨rfl, rfl⟩ := hr
      have hS : (s.heap.push { cls := .type "set", dict := none, data := .set #[] 0 (.fresh 0 0 (!w.params.followText "set-order")) }).get? s.heap.objs.size = some { cls := .type "set", dict := none, data := .set #[] 0 (.fresh 0 0 (!w.params.followText "set-order")) } := Heap.get?_push_size _ rfl
      have hT : Shared.TypeIs { s with heap := s.heap.push { cls := .type "set", dict := none, data := .set #[] 0 (.fresh 0 0 (!w.params.followText "set-order")) } } (.ref s.heap.objs.size) "set" := ⟨_, hS, rfl⟩
      have hli := F.called_set.init.lookup
      have hbi := F.called_set.init.bind (.ref s.heap.objs.size)
      repeat (any_goals (first | assumption | wp_step))
      refine codeAny_mono (codeAny_call_builtin (R := wants (fun r s2 => r = .none ∧ ∃ h' tk c, s2 = { s with heap := h', toks := tk } ∧ TR w h' s.heap.objs.size (mT x.cps.toList) c ∧ c ≤ x.cps.size ∧
          (∀ b o, s.heap.get? b = some o → h'.get? b = some o)) E) F.called_set.init.plain F.entry_set_init (check_set_init_1 hT ?_)) fun r2 s2 hr2 => ?_
      · have hss := PySem.F.sub_str_set
        have hsf := PySem.F.sub_str_frozenset
        have hne : (Value.type "str" == Value.type "dict") = false := by decide
        unfold Builtin.«set.__init__» noKeywords Builtin.Frozenset.updateFrom
        generalize hPI : pyIter = PI
        wp_walk
        subst hPI
        refine wpAny_pyIter_str fun o St hW hst => ?_
        refine wpAny_bind (wpAny_runValue ?_)
        have hz1 : (s.heap.push { cls := .type "set", dict := none, data := .set #[] 0 (.fresh 0 0 (!w.params.followText "set-order")) }).objs.size = s.heap.objs.size + 1 := Heap.size_push ..
        refine t_loop (hW _ (by simp [hh])) rfl (by rw [hz1]; simp) hb (x.cps.size - 0) 0 _ (by omega) (Nat.zero_le _) hst ⟨0, Nat.le_refl 0, ?_⟩ fun h' tk c hk hc hS' => ?_
        · exact tr_new (Heap.get?_push_of_some _ hS)
        · refine wpAny_pure ?_
          show wpAny _ _ (ret Value.none) _ _ _
          refine wpAny_pure ⟨rfl, h', tk, c, rfl, hS', hc, fun b o e => hk b o (fun z => ?_) (Heap.get?_push_of_some _ (Heap.get?_push_of_some _ e))⟩
          have hb0 : b < s.heap.objs.size := Heap.lt_size e
          rw [hz1] at z
          rcases List.mem_cons.mp z with z | z
          · exact Nat.ne_of_lt hb0 z
          · exact Nat.ne_of_lt (Nat.lt_succ_of_lt hb0) (by simpa using z)
      · cases r2 with
        | error e => exact hr2
        | ok fl2 =>
          cases fl2 with
          | ret r =>
            obtain ⟨rfl, h', tk, c', rfl, hS', hc', hk'⟩ := hr2
            repeat (any_goals (first | assumption | wp_step))
            exact h _ _ _ hS' hc' hk'
          | _ => exact hr2.elim
    | _ => exact hr.elim
end
end G

set_option maxHeartbeats 4000000
/-! Ly20: sorted(set(text)) as a new list. -/
namespace G
open PySem PySem.Spec PyProof.Rows L2

/-! ### signs in order, each once -/
def insU (c : Nat) : List Nat → List Nat
  | [] => [c]
  | d :: r => if c < d then c :: d :: r else if c = d then d :: r else d :: insU c r
def ssort : List Nat → List Nat
  | [] => []
  | c :: r => insU c (ssort r)
theorem mem_insU (c x : Nat) : ∀ l : List Nat, x ∈ insU c l ↔ x = c ∨ x ∈ l
  | [] => by simp [insU]
  | d :: r => by
    unfold insU
    split
    · simp
    · split
      · rename_i e; subst e; simp
      · simp only [List.mem_cons, mem_insU c x r]
        exact ⟨fun h => by rcases h with h | h | h <;> simp [h], fun h => by rcases h with h | h | h <;> simp [h]⟩
theorem mem_ssort (x : Nat) : ∀ l : List Nat, x ∈ ssort l ↔ x ∈ l
  | [] => by simp [ssort]
  | c :: r => by rw [ssort, mem_insU, mem_ssort x r, List.mem_cons]
theorem insU_lt (c : Nat) : ∀ l : List Nat, l.Pairwise (· < ·) → (insU c l).Pairwise (· < ·)
  | [], _ => by simp [insU]
  | d :: r, h => by
    rw [List.pairwise_cons] at h
    unfold insU
    split
    · rename_i hc
      rw [List.pairwise_cons, List.pairwise_cons]
      refine ⟨fun x hx => ?_, h⟩
      rcases List.mem_cons.mp hx with z | z
      · rw [z]; exact hc
      · exact Nat.lt_trans hc (h.1 x z)
    · split
      · exact List.pairwise_cons.mpr h
      · rw [List.pairwise_cons]
        refine ⟨fun x hx => ?_, insU_lt c r h.2⟩
        rcases (mem_insU c x r).mp hx with z | z
        · omega
        · exact h.1 x z
theorem ssort_lt : ∀ l : List Nat, (ssort l).Pairwise (· < ·)
  | [] => List.Pairwise.nil
  | c :: r => insU_lt c _ (ssort_lt r)
theorem lt_uniq : ∀ {a b : List Nat}, a.Pairwise (· < ·) → b.Pairwise (· < ·) → (∀ x, x ∈ a ↔ x ∈ b) → a = b
  | [], [], _, _, _ => rfl
  | [], y :: b, _, _, h => absurd ((h y).mpr (by simp)) (by simp)
  | x :: a, [], _, _, h => absurd ((h x).mp (by simp)) (by simp)
  | x :: a, y :: b, ha, hb, h => by
    rw [List.pairwise_cons] at ha hb
    have e : x = y := by
      rcases List.mem_cons.mp ((h x).mp (by simp)) with q | q
      · exact q
      · rcases List.mem_cons.mp ((h y).mpr (by simp)) with q' | q'
        · exact q'.symm
        · have := ha.1 y q'; have := hb.1 x q; omega
    subst e
    rw [lt_uniq ha.2 hb.2 fun z => ?_]
    constructor
    · intro m
      rcases List.mem_cons.mp ((h z).mp (by simp [m])) with q | q
      · have := ha.1 z m; omega
      · exact q
    · intro m
      rcases List.mem_cons.mp ((h z).mpr (by simp [m])) with q | q
      · have := hb.1 z m; omega
      · exact q
theorem insU_len (c : Nat) : ∀ l : List Nat, (insU c l).length ≤ l.length + 1
  | [] => by simp [insU]
  | d :: r => by
    have := insU_len c r
    unfold insU
    split
    · simp
    · split <;> simp <;> omega
theorem ssort_len : ∀ l : List Nat, (ssort l).length ≤ l.length
  | [] => by simp [ssort]
  | c :: r => by
    have h1 := insU_len c (ssort r)
    have h2 := ssort_len r
    rw [ssort, List.length_cons]; omega
/-- what the sort gives, as signs -/
theorem rising_sg : ∀ (c : Nat) (ys : List Str), (∀ y ∈ ys, ∃ d, y = sg d) → risingS (sg c) ys = true → ∃ ds : List Nat, ys = ds.map sg ∧ (c :: ds).Pairwise (· ≤ ·)
  | c, [], _, _ => ⟨[], rfl, by simp⟩
  | c, y :: ys, h, r => by
    obtain ⟨d, rfl⟩ := h y (by simp)
    have r' : (!ltCps [d] [c] && risingS (sg d) ys) = true := r
    rw [Bool.and_eq_true] at r'
    obtain ⟨ds, e, hp⟩ := rising_sg d ys (fun z m => h z (by simp [m])) r'.2
    refine ⟨d :: ds, by rw [e]; rfl, ?_⟩
    have hle : c ≤ d := by
      have q := r'.1
      simp [ltCps] at q
      exact q
    rw [List.pairwise_cons] at hp ⊢
    refine ⟨fun x m => ?_, List.pairwise_cons.mpr hp⟩
    rcases List.mem_cons.mp m with z | z
    · rw [z]; exact hle
    · exact Nat.le_trans hle (hp.1 x z)
theorem sorted_sg (ys : List Str) (h : ∀ y ∈ ys, ∃ d, y = sg d) (r : sortedS ys = true) : ∃ ds : List Nat, ys = ds.map sg ∧ ds.Pairwise (· ≤ ·) := by
  cases ys with
  | nil => exact ⟨[], rfl, .nil⟩
  | cons y ys =>
    obtain ⟨d, rfl⟩ := h y (by simp)
    obtain ⟨ds, e, p⟩ := rising_sg d ys (fun z m => h z (by simp [m])) r
    exact ⟨d :: ds, by rw [e]; rfl, p⟩
theorem sg_inj {c d : Nat} (h : sg c = sg d) : c = d := by
  have q : [c] = [d] := congrArg (fun y : Str => y.cps.toList) h
  simpa using q
theorem sorted_is (cs : List Nat) (ks ys : List Str) (nd : ks.Nodup) (mm : ∀ k, k ∈ ks ↔ k ∈ cs.map sg) (pm : ys.Perm ks) (r : sortedS ys = true) : ys = (ssort cs).map sg := by
  have hy : ∀ y ∈ ys, ∃ d, y = sg d := fun y m => by
    obtain ⟨d, _, e⟩ := List.mem_map.mp ((mm y).mp (pm.mem_iff.mp m))
    exact ⟨d, e.symm⟩
  obtain ⟨ds, rfl, hp⟩ := sorted_sg ys hy r
  have nd2 : ds.Nodup := by
    have q : (ds.map sg).Nodup := pm.nodup_iff.mpr nd
    clear hp pm r hy
    induction ds with
    | nil => exact .nil
    | cons d ds ih =>
      rw [List.map_cons, List.nodup_cons] at q
      exact List.nodup_cons.mpr ⟨fun m => q.1 (List.mem_map.mpr ⟨d, m, rfl⟩), ih q.2⟩
  have lt : ds.Pairwise (· < ·) := by
    have q := List.Pairwise.and hp nd2
    exact q.imp fun ⟨h1, h2⟩ => Nat.lt_of_le_of_ne h1 h2
  rw [lt_uniq lt (ssort_lt cs) fun x => ?_]
  rw [mem_ssort]
  constructor
  · intro m
    obtain ⟨d, m2, e⟩ := List.mem_map.mp ((mm (sg x)).mp (pm.mem_iff.mp (List.mem_map.mpr ⟨x, m, rfl⟩)))
    rw [← sg_inj e]; exact m2
  · intro m
    obtain ⟨d, m2, e⟩ := List.mem_map.mp (pm.mem_iff.mpr ((mm (sg x)).mpr (List.mem_map.mpr ⟨x, m, rfl⟩)))
    rw [← sg_inj e]; exact m2

section
variable {P : Program} {w : World} {A : Around} {E : Value → Shared → Prop} {s : Shared} {a : Addr} {n : Nat} {cs : List Nat}
theorem sorted_tr {Q : Value → Shared → Prop} (R : TR w s.heap a (mT cs) n) (hh : A.handled = none) (h64 : n < 64)
    (hQ : ∀ s' p (out : List Value) (c : Nat), (∀ b o, s.heap.get? b = some o → s'.heap.get? b = some o) → s'.gens = s.gens → s'.os = s.os → s.heap.objs.size ≤ p → s'.heap.get? p = some (seqObj "list" out.toArray c) → StrsAre out ((ssort cs).map sg) → Q (.ref p) s') :
    wpAny (model P w) A (call (.builtin "sorted") [.ref a]) Q E s := by
  obtain ⟨ob, en, ep, tb, e0, ex, dt, g, nd, mm, hb, ft, sz, ri, le⟩ := R
  refine Calls.call_function_entry kind_sorted plain_sorted entry_sorted (args_sorted1 _) ?_
  unfold Builtin.«sorted»
  refine wpAny_bind (m := checkCount "sorted" 1 1 _) (wpAny_pure ?_)
  refine wpAny_bind (collect_set (A := A.in1) hh ⟨ob, e0, ex.1, dt⟩ ft hb ri le fun s1 vs k1 hz g1 o1 pm => ?_)
  have len : vs.length = n := by rw [pm.length_eq, List.length_map, Array.length_toList]; exact sz
  have allS : ∀ (vs : List Value), (∀ v ∈ vs, ∃ k u, v = Value.str k u) → ∃ ks, StrsAre vs ks ∧ ks = vs.map fun v => kT (0, v) := by
    intro vs
    induction vs with
    | nil => exact fun _ => ⟨[], .nil, rfl⟩
    | cons v vs ih =>
      intro h
      obtain ⟨k, u, rfl⟩ := h v (by simp)
      obtain ⟨ks, h1, h2⟩ := ih fun v m => h v (by simp [m])
      exact ⟨k :: ks, .cons k u h1, by rw [h2]; rfl⟩
  obtain ⟨ks, hS, hks⟩ := allS vs fun v m => by
    obtain ⟨e, me, q⟩ := List.mem_map.mp (pm.mem_iff.mp m)
    obtain ⟨k, u, h1, _⟩ := g e me
    exact ⟨k, u, by rw [← q]; exact h1⟩
  have pk : ks.Perm (en.toList.map kT) := by
    rw [hks]
    have q := pm.map fun v => kT (0, v)
    rw [List.map_map] at q
    exact q
  refine wpAny_bind (wpAny_newList ?_ (by rw [len, sizeLine_eq]; omega))
  have hoL : (s1.heap.push (seqObj "list" vs.toArray 0)).get? s1.heap.objs.size = some (seqObj "list" vs.toArray 0) := Heap.get?_push_size _ rfl
  refine wpAny_bind (wpAny_holding (wpAny_call_entry slot_list_sort ⟨_, hoL, rfl⟩ entry_list_sort (list_sort_treeK strKind_oneLt hoL hS.keysOf (fun v1 v2 rest e => keyKind_strs (by rw [← e]; exact hS)) (by rw [len]; exact h64) fun st' hp hs => ⟨_, rfl, ?_⟩) (args_list_sort _)))
  obtain ⟨ys, q1, q2, q3⟩ := sorted_out_str hS hp hs
  obtain ⟨c, hc⟩ := sortedHeap_at (vs := vs) (out := (arrOf st').map (·.2)) hoL
  have e := sorted_is cs (en.toList.map kT) ys nd (fun k => by rw [← mm k]; unfold mT; simp) (q2.trans pk) q3
  rw [e] at q1
  refine wpAny_pure ⟨_, rfl, hQ _ s1.heap.objs.size ((arrOf st').map (·.2)).toList c (fun b u e => ?_) g1 o1 hz (by rw [Array.toArray_toList]; exact hc) q1⟩
  have q := k1 b u e
  have hlt := Heap.lt_size q
  show (sortedHeap (s1.heap.push (seqObj "list" vs.toArray 0)) s1.heap.objs.size vs ((arrOf st').map (·.2))).get? b = some u
  rw [sortedHeap_old (Nat.ne_of_lt hlt) (by rw [size_push']; exact Nat.lt_succ_of_lt hlt)]
  exact Heap.get?_push_of_some _ q
end
/-- sorted(set(text)) -/
def tSset (te : TE) : TE := fun σ H Q => te σ H fun x H1 => ∃ z : Str, x = .str z ∧ z.cps.size < 63 ∧ ∀ p, H1 p = none → Q (.ref p) (upd H1 p (.lst (((ssort z.cps.toList).map sg).map V.str)))
section
variable {X : Cx} {cm : Cm}
theorem pe_sset {a : Expr} {te : TE} {p p2 q pos : Pos} (hc : X.calm = true) (hg : Gl X "sorted") (hm : X.mg "sorted" = none) (hg2 : Gl X "set") (hm2 : X.mg "set" = none) (ha : PE X a te)
    (na : starEach [a] X.env = (false, eval a X.env) :: starEach [] X.env := by rfl) : PE X (.Call (.Name "sorted" p) [.Call (.Name "set" p2) [a] [] q] [] pos) (tSset te) := by
  refine ⟨fun pins s σ H Q I h => ?_⟩
  refine Call_ (ld_blt I hg hm PyProof.Rows.boot_sorted (PyProof.Rows.callWith_builtin1 (PyProof.Rows.args_cons ?_ rfl) rfl rfl))
  refine Call_ (ld_blt I hg2 hm2 PyProof.Rows.boot_set (PyProof.Rows.callWith_type1 (PyProof.Rows.args_cons (thn (ha.run pins s σ H _ I h) fun v s1 ⟨x, H1, I1, r1, q1⟩ => PyProof.Rows.args_nil ?_) na) na rfl))
  obtain ⟨z, rfl, hz, q1⟩ := q1
  obtain ⟨t, rfl⟩ := r1
  have room : z.cps.size + 1 < scanBound := Nat.lt_of_le_of_lt (show z.cps.size + 1 ≤ 64 by omega) (by decide)
  refine call_set_txt (I1.ok.hd hc) room fun h' tk c hS hcz hk => PyProof.Rows.args_nil ?_
  have I2 : Inv X pins σ H1 { s1 with heap := h', toks := tk } := I1.kept hk
  refine sorted_tr (s := { s1 with heap := h', toks := tk }) hS (I1.ok.hd hc) (by omega) fun s' p out c2 hk2 hg2 ho2 hp2 he2 hS2 => ?_
  have hlen : (((ssort z.cps.toList).map sg).map V.str).length ≤ sizeLine := by
    rw [List.length_map, List.length_map]
    have l1 := ssort_len z.cps.toList
    have l2 : z.cps.toList.length = z.cps.size := Array.length_toList
    rw [sizeLine_eq]; omega
  have hn : H1 p = none := I2.hok.fresh hp2
  have J : Inv X pins σ (upd H1 p (.lst (((ssort z.cps.toList).map sg).map V.str))) { ({ s1 with heap := h', toks := tk } : Shared) with heap := s'.heap, gens := s'.gens, drawn := s'.drawn, toks := s'.toks } :=
    I2.call (ch := []) (Un.laid hk2 hp2 hn) (I2.hok.laid hk2 hp2 ⟨hlen, out, c2, vals_of_strs hS2, he2⟩) (by rw [hg2]; exact I2.bare) (fun _ m => nomatch m)
  have es : s' = { ({ s1 with heap := h', toks := tk } : Shared) with heap := s'.heap, gens := s'.gens, drawn := s'.drawn, toks := s'.toks } := by
    cases s'
    cases s1
    cases ho2
    rfl
  rw [es]
  exact ⟨.ref p, _, J, rfl, q1 p hn⟩
end
end G

/-! Ly21: sorted(set(text)), join, in. -/
namespace G
open PySem PySem.Spec L2

def nSset (f : Em) : Rho → Option (T × Rho) := fun ρ => (f ρ).bind fun p => (rd p.2 p.1).bind fun d => match d with
  | .str s => if s.length < 63 then some (.ls ((ssort s).map fun c => .str [c]), p.2) else none
  | _ => none
section
variable {X : Cx} {cm : Cm} {pos p p2 q : Pos} {a b e o : Expr} {K : PySem.W.Frag} {A : AS} {H : Hp}
theorem rpl_sg : ∀ cs : List Nat, RpL K cm A H ((cs.map sg).map V.str) (cs.map fun c => D.str [c])
  | [] => .nil
  | c :: cs => .cons (.str [c]) (rpl_sg cs)
theorem fn_sset {f : Em} (hc : X.calm = true) (hg : Gl X "sorted") (hm : X.mg "sorted" = none) (hg2 : Gl X "set") (hm2 : X.mg "set" = none) (ha : FE X cm a f) (na : starEach [a] X.env = (false, eval a X.env) :: starEach [] X.env := by rfl) :
    FN X cm (.Call (.Name "sorted" p) [.Call (.Name "set" p2) [a] [] q] [] pos) (nSset f) := (pe_sset hc hg hm hg2 hm2 ha na).imp fun σ H Q ⟨C, A, ρ, t, ρ', R, q, k⟩ => by
  unfold nSset at q
  simp only [Option.bind_eq_some_iff] at q
  obtain ⟨⟨r, ρ1⟩, h1, d, h2, h3⟩ := q
  dsimp only at h3
  split at h3
  · split at h3
    · rename_i s hz
      cases h3
      refine ⟨C, A, ρ, r, _, R, h1, fun v H1 A1 l1 R1 w1 => ?_⟩
      have ro := rd_ok R1 w1 h2
      cases ro.str
      refine ⟨S s, rfl, by rw [S_len']; exact hz, fun p hp => ?_⟩
      obtain ⟨l2, R2, hF⟩ := own1 (o := .lst (((ssort (S s).cps.toList).map sg).map V.str)) R1 hp
      refine k _ _ _ [p] (l1.trans l2) R2 ⟨p, _, rfl, rfl, upd_same, ?_⟩ (by simp) hF
      have e : (S s).cps.toList = s := by simp [S]
      rw [e]
      exact rpl_sg (ssort s)
    · cases h3
  · cases h3
where
  S_len' {s : List Nat} : (S s).cps.size = s.length := by simp [S]

/-! ### join -/
def D.s? : D → Option (List Nat)
  | .str s => some s
  | _ => none
def strL : List D → Option (List (List Nat))
  | [] => some []
  | d :: ds => d.s?.bind fun s => (strL ds).map fun r => s :: r
def jnL (a : List Nat) : List (List Nat) → List Nat
  | [] => []
  | [x] => x
  | x :: y :: r => x ++ a ++ jnL a (y :: r)
theorem strL_ok : ∀ {xs : List V} {ds : List D} {ss : List (List Nat)}, RpL K cm A H xs ds → strL ds = some ss → xs = (ss.map S).map V.str
  | _, _, _, .nil, e => by cases e; rfl
  | _, _, _, .cons h t, e => by
    simp only [strL, Option.bind_eq_some_iff, Option.map_eq_some_iff] at e
    obtain ⟨i, e1, r, e2, e3⟩ := e
    cases e3
    cases h <;> cases e1
    rw [strL_ok t e2]; rfl
theorem S_app (a b : List Nat) : S a ++ S b = S (a ++ b) := by
  show Str.mk _ = Str.mk _
  simp [S]
theorem join_S (a : List Nat) : ∀ ss : List (List Nat), Str.join (S a) (ss.map S) = S (jnL a ss)
  | [] => rfl
  | [x] => rfl
  | x :: y :: r => by
    show S x ++ S a ++ Str.join (S a) ((y :: r).map S) = S (x ++ a ++ jnL a (y :: r))
    rw [join_S a (y :: r), S_app, S_app]
def lstD : D → Option (List D)
  | .lst ds => some ds
  | .tup ds => some ds
  | _ => none
def cJoin (a : List Nat) (d : D) : Option D := (lstD d).bind fun ds => (strL ds).bind fun ss => if (ss.map (·.length)).sum + ss.length * a.length ≤ big then some (.str (jnL a ss)) else none
def eJoin (f g : Em) : Em := fun ρ => (f ρ).bind fun p => match p.1 with
  | .val (.str a) => (g p.2).bind fun q => (rd q.2 q.1).bind fun d => (cJoin a d).map fun z => (.val z, q.2)
  | _ => none
theorem fe_join {f g : Em} {apos : Pos} (ho : FE X cm o f) (he : FE X cm e g) (hs : starEach [e] X.env = [(false, eval e X.env)] := by rfl) (hbase : attributeBase o "join" X.env (eval o X.env) = eval o X.env := by rfl) (hline : (apos.endLine == pos.line) = true := by rfl) :
    FE X cm (.Call (.Attribute o "join" apos) [e] [] pos) (eJoin f g) := (pe_join ho he hs hbase hline).imp fun σ H Q ⟨C, A, ρ, t, ρ', R, q, k⟩ => by
  unfold eJoin at q
  simp only [Option.bind_eq_some_iff] at q
  obtain ⟨⟨r, ρ1⟩, h1, q⟩ := q
  dsimp only at q
  split at q
  rotate_left
  · cases q
  rename_i a
  simp only [Option.bind_eq_some_iff, Option.map_eq_some_iff] at q
  obtain ⟨⟨r2, ρ2⟩, h2, d, h3, z, h4, h5⟩ := q
  cases h5
  refine ⟨C, A, ρ, _, ρ1, R, h1, fun v H1 A1 l1 R1 w1 => ?_⟩
  cases w1
  refine ⟨⟨S a, rfl⟩, C, A1, ρ1, r2, ρ2, R1, h2, fun y H2 A2 l2 R2 w2 => ?_⟩
  have ro := rd_ok R2 w2 h3
  simp only [cJoin, Option.bind_eq_some_iff] at h4
  obtain ⟨ds, e1, ss, e2, e3⟩ := h4
  split at e3
  rotate_left
  · cases e3
  rename_i hz
  cases e3
  have main : ∃ p xs, y = .ref p ∧ (SqL X.K H2 p xs ∨ SqT X.K H2 p xs) ∧ RpL X.K cm A2 H2 xs ds := by
    cases d <;> cases e1
    · obtain ⟨p, xs, e, hs, r⟩ := ro.tup
      exact ⟨p, xs, e, .inr hs, r⟩
    · obtain ⟨p, xs, e, hs, r⟩ := ro.ls
      exact ⟨p, xs, e, .inl hs, r⟩
  obtain ⟨p, xs, rfl, hq, r⟩ := main
  have := strL_ok r e2
  subst this
  refine ⟨S a, p, ss.map S, rfl, rfl, hq, ?_, ?_⟩
  · have e : ((ss.map S).map fun x => x.length) = ss.map (·.length) := by
      rw [List.map_map]
      exact List.map_congr_left fun x _ => S_len x
    rw [e, List.length_map, S_len]
    have : big = 1000000 := rfl
    omega
  · rw [show Txt.join (S a) (ss.map S) = Str.join (S a) (ss.map S) from TL.join_eq _ _, join_S]
    exact k _ H2 A2 (l1.trans l2) R2 (.str _)

/-! ### in -/
def cIn2 : D → D → Option D
  | .str [c], .str s => some (.bl (decide (c ∈ s)))
  | _, _ => none
def cNin (x y : D) : Option D := (cIn2 x y).bind fun d => match d with
  | .bl b => some (.bl (!b))
  | _ => none
theorem sgS (c : Nat) : S [c] = ⟨#[c]⟩ := rfl
theorem ro_insign : RO K cm (fun x y H Q => ∃ (c : Nat) (z : Str), x = .str ⟨#[c]⟩ ∧ y = .str z ∧ Q (.bl (decide (c ∈ z.cps.toList))) H) cIn2 := by
  intro A H x y dx dy dz Q hd hx hy e k
  unfold cIn2 at e
  split at e
  · rename_i c s
    cases e
    cases hx.str; cases hy.str
    have h : (S s).cps.toList = s := by simp [S]
    refine ⟨c, S s, rfl, rfl, ?_⟩
    rw [h]
    exact k _ H (.refl H) (.bl _)
  · cases e
theorem ro_ninsign : RO K cm (fun x y H Q => ∃ (c : Nat) (z : Str), x = .str ⟨#[c]⟩ ∧ y = .str z ∧ Q (.bl (!decide (c ∈ z.cps.toList))) H) cNin := by
  intro A H x y dx dy dz Q hd hx hy e k
  unfold cNin cIn2 at e
  split at e
  · rename_i c s
    cases e
    cases hx.str; cases hy.str
    have h : (S s).cps.toList = s := by simp [S]
    refine ⟨c, S s, rfl, rfl, ?_⟩
    rw [h]
    exact k _ H (.refl H) (.bl _)
  · cases e
end
end G

/-! Ly22: in, not in, of texts, lists, tuples. -/
namespace G
open PySem PySem.Spec L2

def D.fl : D → Bool
  | .non => true
  | .bl _ => true
  | .int _ => true
  | .str _ => true
  | _ => false
def flL : List D → Bool
  | [] => true
  | d :: ds => d.fl && flL ds
def anyE (x : D) : List D → Bool
  | [] => false
  | d :: ds => D.eq d x || anyE x ds
def cInL (x y : D) : Option D := (lstD y).bind fun ds => if x.fl && flL ds then some (.bl (anyE x ds)) else none
def cInA (x y : D) : Option D := (cIn2 x y).or (cInL x y)
def cNi (x y : D) : Option D := (cInA x y).bind fun d => match d with
  | .bl b => some (.bl (!b))
  | _ => none
section
variable {X : Cx} {cm : Cm} {K : PySem.W.Frag} {A : AS} {H : Hp}
theorem fl_v {v : V} {d : D} (h : Rp K cm A H v d) (f : d.fl = true) : flatV v = true := by
  cases h <;> first | rfl | cases f
theorem fl_vL : ∀ {xs : List V} {ds : List D}, RpL K cm A H xs ds → flL ds = true → xs.all flatV = true
  | _, _, .nil, _ => rfl
  | _, _, .cons h t, f => by
    simp only [flL, Bool.and_eq_true] at f
    simp only [List.all_cons, Bool.and_eq_true]
    exact ⟨fl_v h f.1, fl_vL t f.2⟩
theorem S_inj2 {a b : List Nat} (h : S a = S b) : a = b := by
  have := congrArg (fun x : Str => x.cps.toList) h
  simpa [S] using this
theorem eq_v {v w : V} {d e : D} (h : Rp K cm A H v d) (g : Rp K cm A H w e) (f : d.fl = true) (f2 : e.fl = true) : eqV v w = D.eq d e := by
  cases h <;> (try cases f) <;> cases g <;> (try cases f2) <;> simp [eqV, D.eq]
  all_goals first
    | (rename_i a b; by_cases q : a = b
       · subst q; simp
       · rw [beq_eq_false_iff_ne.mpr (fun z => q (S_inj2 z))]; simp [q])
    | (rename_i a b; by_cases q : a = b <;> simp [q])
theorem any_v {v : V} {d : D} (h : Rp K cm A H v d) (f : d.fl = true) : ∀ {xs : List V} {ds : List D}, RpL K cm A H xs ds → flL ds = true → inV v xs = anyE d ds
  | _, _, .nil, _ => rfl
  | _, _, .cons g t, f2 => by
    simp only [flL, Bool.and_eq_true] at f2
    have ih := any_v h f t f2.2
    unfold inV at ih ⊢
    rw [List.any_cons, ih, eq_v g h f2.1 f]
    rfl
theorem ro_inseq {neg : Bool} : RO K cm (rIn K neg) (fun x y => (cInL x y).bind fun d => match d with
  | .bl b => some (.bl (if neg then !b else b))
  | _ => none) := by
  intro A H x y dx dy dz Q hd hx hy e k
  simp only [cInL, Option.bind_eq_some_iff] at e
  obtain ⟨d0, ⟨ds, h1, h2⟩, h3⟩ := e
  split at h2
  rotate_left
  · cases h2
  rename_i hz
  cases h2
  cases h3
  rw [Bool.and_eq_true] at hz
  have hx' : Rp K cm A H x dx := by
    cases hx with
    | of h => exact h
    | lst _ _ => exact absurd hz.1 (by simp [D.fl])
    | dic _ _ => exact absurd hz.1 (by simp [D.fl])
    | dit _ _ => exact absurd hz.1 (by simp [D.fl])
  have main : ∃ p xs, y = .ref p ∧ (SqL K H p xs ∨ SqT K H p xs) ∧ RpL K cm A H xs ds := by
    cases dy <;> cases h1
    · obtain ⟨p, xs, e, hs, r⟩ := hy.tup
      exact ⟨p, xs, e, .inr hs, r⟩
    · obtain ⟨p, xs, e, hs, r⟩ := hy.ls
      exact ⟨p, xs, e, .inl hs, r⟩
  obtain ⟨p, xs, rfl, hq, r⟩ := main
  refine ⟨p, xs, rfl, hq, fl_v hx' hz.1, fl_vL r hz.2, ?_⟩
  rw [any_v hx' hz.1 r hz.2]
  exact k _ H (.refl H) (.bl _)
theorem op_inA : OpR X (compareOp .In) (fun x y H Q => (∃ (c : Nat) (z : Str), x = .str ⟨#[c]⟩ ∧ y = .str z ∧ Q (.bl (decide (c ∈ z.cps.toList))) H) ∨ rIn X.K false x y H Q) := op_in_sign.or op_in_seq
theorem op_ninA : OpR X (compareOp .NotIn) (fun x y H Q => (∃ (c : Nat) (z : Str), x = .str ⟨#[c]⟩ ∧ y = .str z ∧ Q (.bl (!decide (c ∈ z.cps.toList))) H) ∨ rIn X.K true x y H Q) := op_notIn_sign.or op_notIn_seq
theorem ro_in : RO K cm (fun x y H Q => (∃ (c : Nat) (z : Str), x = .str ⟨#[c]⟩ ∧ y = .str z ∧ Q (.bl (decide (c ∈ z.cps.toList))) H) ∨ rIn K false x y H Q) cInA := (RO.or ro_insign ro_inseq).by fun x y z h => by
  unfold cInA at h
  cases q : cIn2 x y with
  | some d => rw [q] at h; exact h
  | none =>
    rw [q] at h
    have h : cInL x y = some z := h
    show (none : Option D).or _ = some z
    rw [h]
    simp only [cInL, Option.bind_eq_some_iff] at h
    obtain ⟨ds, _, h2⟩ := h
    split at h2 <;> cases h2
    rfl
theorem ro_nin : RO K cm (fun x y H Q => (∃ (c : Nat) (z : Str), x = .str ⟨#[c]⟩ ∧ y = .str z ∧ Q (.bl (!decide (c ∈ z.cps.toList))) H) ∨ rIn K true x y H Q) cNi := (RO.or ro_ninsign ro_inseq).by fun x y z h => by
  unfold cNi cInA at h
  unfold cNin
  cases q : cIn2 x y with
  | some d =>
    rw [q] at h
    obtain ⟨b, rfl⟩ : ∃ b, d = .bl b := by
      unfold cIn2 at q
      split at q <;> cases q
      exact ⟨_, rfl⟩
    exact h
  | none =>
    rw [q] at h
    exact h
end
end G

/-! Ly23: dict comprehensions. -/
namespace G
open PySem PySem.Spec L2

def dcF (own : List Nat) (h : D → Rho → Option Rho) (ifs : Bm) (ke ve : Em) : List D → List (DK × D) → Rho → Option (List (DK × D) × Rho)
  | [], acc, ρ => some (acc, ρ)
  | d :: ds, acc, ρ => (h d ρ).bind fun ρ1 => (ifs ρ1).bind fun p => if p.1 then (ke p.2).bind fun q => (ve q.2).bind fun r => (rd r.2 q.1).bind fun kd => (kd.k?).bind fun kk => (pu r.2 r.1).bind fun y => (wipeS own r.2).bind fun ρ3 => dcF own h ifs ke ve ds (putD acc kk y) ρ3
      else (wipeS own p.2).bind fun ρ3 => dcF own h ifs ke ve ds acc ρ3
def nDc (own : List Nat) (f : Im) (h : D → Rho → Option Rho) (ifs : Bm) (ke ve : Em) : Rho → Option (T × Rho) := fun ρ => (f ρ).bind fun p => if p.1.length ≤ big then (wipeS own p.2).bind fun ρw => (dcF own h ifs ke ve p.1 [] ρw).map fun r => (.di r.1, back p.2 r.2 own) else none
theorem putD_len {κ : Type} [DecidableEq κ] (kvs : List (κ × D)) (k : κ) (v : D) : (putD kvs k v).length ≤ kvs.length + 1 := by
  unfold putD
  split <;> simp
section
variable {X : Cx} {cm : Cm} {pos : Pos} {kx vx tg iter : Expr} {ifs : List Expr}
theorem tDc_core {K : PySem.W.Frag} {wi : TI} {own is : List Nat} {ds : List D} {all : List (DK × D)} {h : D → Rho → Option Rho} {g : Bm} {ke ve : Em} {σ : L2.St} {H : Hp} {Q : VK} {C : Fc} {A : AS} {ρ1 ρw ρ2 : Rho} (hsub : ∀ i ∈ is, i ∈ own)
    (hw : ∀ R' : It → Hp → Prop, (∀ J H1 A1 W, Lt C A H A1 H1 → RS K cm C A1 [] σ H1 ρ1 → ItOk K cm J W ds → W A1 H1 → R' J H1) → wi σ H R') (hbig : ds.length ≤ big) (h2 : wipeS own ρ1 = some ρw) (h3 : dcF own h g ke ve ds [] ρw = some (all, ρ2))
    (k : ∀ v H' A' F, Lt C A H A' H' → RS K cm C A' F σ H' (back ρ1 ρ2 own) → RT K cm A' H' v (.di all) F → F.Nodup → (∀ a ∈ F, C.H0 a = none ∧ A' a ∧ ¬ C.A0 a) → Q v H') : tDc wi (tG K cm is h) (tT K cm g) (tE K cm ke) (tE K cm ve) own σ H Q := by
  refine hw _ fun J H1 A1 W l1 R1 hJ w1 D hD => ?_
  obtain ⟨lD, RD, hF⟩ := own1 (o := .dK []) R1 hD
  have hA0 : ¬ C.A0 D := (hF D (by simp)).2.2
  have hH0 : C.H0 D = none := (hF D (by simp)).1
  have RW := (RD.plus (.inr rfl)).wipe h2
  refine ⟨fun i m Hc => m = ds.length - i ∧ i ≤ ds.length ∧ ∃ Ac ρc acc dacc, Lt C A1 H1 Ac Hc ∧ RS K cm (C.plus D) Ac [] (wipe σ own) Hc ρc ∧ W Ac Hc ∧ Hc D = some (.dK acc) ∧ RpK K cm Ac Hc acc dacc ∧ Ac D ∧ dacc.length ≤ i ∧ dcF own h g ke ve (ds.drop i) dacc ρc = some (all, ρ2),
    ⟨ds.length, by simp, Nat.zero_le _, _, ρw, [], [], lD, RW, hJ.stay _ _ _ _ w1 lD.l, upd_same, .nil, .inr rfl, Nat.zero_le _, h3⟩, ?_⟩
  rintro i m Hc ⟨rfl, hi, Ac, ρc, acc, dacc, lc, Rc, wc, hc, rc, hAc, hacc, qc⟩
  by_cases hlt : i < ds.length
  · rw [drop_cons_of hlt] at qc
    simp only [dcF, Option.bind_eq_some_iff] at qc
    obtain ⟨ρ3, q3, ⟨b, ρ4⟩, q4, q5⟩ := qc
    refine .inr ⟨hJ.go Ac Hc i wc hlt, fun H' => i + 1 ≤ ds.length ∧ ∃ Ac ρc acc dacc, Lt C A1 H1 Ac H' ∧ RS K cm (C.plus D) Ac [] (wipe σ own) H' ρc ∧ W Ac H' ∧ H' D = some (.dK acc) ∧ RpK K cm Ac H' acc dacc ∧ Ac D ∧ dacc.length ≤ i + 1 ∧ dcF own h g ke ve (ds.drop (i + 1)) dacc ρc = some (all, ρ2),
      fun H' h' => ⟨ds.length - (i + 1), by omega, rfl, h'⟩, fun x H3 hy => ?_⟩
    obtain ⟨g3, r3⟩ := hJ.yld Ac Hc i x H3 ds[i] wc Rc.dom (List.getElem?_eq_getElem hlt) hy
    have R3 := Rc.grow g3
    have l3 : Lt (C.plus D) Ac Hc Ac H3 := .same g3
    refine ⟨C.plus D, Ac, ρc, ds[i], ρ3, R3, r3, q3, fun σ2 H4 A4 l4 R4 el2 fe2 => ?_⟩
    have hw2 : wipe σ2 own = wipe σ own := by
      rw [← wipe_wipe σ own]
      exact wipe_same el2 fun j hj => fe2 j fun z => hj (hsub j z)
    refine ⟨hw2, C.plus D, A4, ρ3, b, ρ4, R4, q4, fun H5 A5 l5 R5 => ?_⟩
    cases b with
    | false =>
      simp only [Bool.false_eq_true, if_false, Option.bind_eq_some_iff] at q5
      obtain ⟨ρ5, q6, q7⟩ := q5
      have R6 := R5.wipe q6
      rw [hw2] at R6
      have l35 := (l3.trans l4).trans l5
      exact iteF ⟨hlt, A5, ρ5, acc, dacc, lc.trans l35.of_plus, R6, hJ.stay _ _ _ _ wc l35.l, l35.o D _ (.inr rfl) hc pl_dK.1, rc.later l35.l, R5.out D (.inr rfl), by omega, q7⟩
    | true =>
      simp only [if_true, Option.bind_eq_some_iff] at q5
      obtain ⟨⟨rk, ρ5⟩, q6, ⟨rv, ρ6⟩, q7, kd, q8, kk, q9, y, q10, ρ7, q11, q12⟩ := q5
      refine iteT ⟨C.plus D, A5, ρ4, rk, ρ5, R5, q6, fun vk H6 A6 l6 R6 w6 => ⟨C.plus D, A6, ρ5, rv, ρ6, R6, q7, fun vv H7 A7 l7 R7 w7 => ?_⟩⟩
      have l37 := (((l3.trans l4).trans l5).trans l6).trans l7
      have hD7 := l37.o D _ (.inr rfl) hc pl_dK.1
      have ry := pu_ok R7 w7 q10
      have hA7 := R7.out D (.inr rfl)
      have hk : vk = kV kk.k := by
        have ro := rd_ok R7 (w6.later l7) q8
        cases kd <;> cases q9
        · exact ro.int
        · exact ro.str
      obtain ⟨lu, Ru⟩ := R7.updOut (o := .dK (putK acc kk.k vv)) hA7 (.inr rfl) hH0 hD7 pl_dK
      have Ruw := Ru.wipe q11
      rw [hw2] at Ruw
      have lt : Lt C A1 H1 A7 (upd H7 D (.dK (putK acc kk.k vv))) := (lc.trans l37.of_plus).trans ⟨lu, fun a o z e _ => by rw [upd_ne (fun w => hA0 (by rw [← w]; exact z))]; exact e⟩
      refine ⟨acc, kk.k, hk, hD7, big_lt (by rw [rc.length]; omega), hlt, A7, ρ7, putK acc kk.k vv, putD dacc kk y, lt, Ruw, hJ.stay _ _ _ _ (hJ.stay _ _ _ _ wc l37.l) lu, upd_same, ((rc.later l37.l).later lu).put (ry.later lu), hA7, ?_, q12⟩
      have := putD_len dacc kk y
      omega
  · rw [List.drop_of_length_le (by omega)] at qc
    cases qc
    refine .inl ⟨hJ.stop Ac Hc i wc (by omega), ?_⟩
    refine k _ Hc Ac [D] (l1.trans lc) (RS.back R1 h2 lc (Rc.minus hH0)) ⟨D, acc, rfl, rfl, hc, rc⟩ (by simp) fun a m => ?_
    obtain rfl : a = D := by simpa using m
    exact ⟨hH0, hAc, hA0⟩
theorem fn_dc {own : List (Str × Nat)} {scope : Scope} {is : List Nat} {f : Im} {h : D → Rho → Option Rho} {g : Bm} {ke ve : Em} (hc : X.calm = true) (hN : X.N.Nodup) (hi : FI X cm tg iter f) (ok : BlkOk X.N X.env.scope scope own)
    (hg : ∀ (s : Shared) (H : Hp) (C : Addr) (cl : List (Str × Addr)) (fp : List Addr), FG (X.blk s H scope (compEnvC scope cl C X.env) fp) cm tg is h) (ht : ∀ (s : Shared) (H : Hp) (C : Addr) (cl : List (Str × Addr)) (fp : List Addr), FTs (X.blk s H scope (compEnvC scope cl C X.env) fp) cm ifs g)
    (hk : ∀ (s : Shared) (H : Hp) (C : Addr) (cl : List (Str × Addr)) (fp : List Addr), FE (X.blk s H scope (compEnvC scope cl C X.env) fp) cm kx ke) (he : ∀ (s : Shared) (H : Hp) (C : Addr) (cl : List (Str × Addr)) (fp : List Addr), FE (X.blk s H scope (compEnvC scope cl C X.env) fp) cm vx ve)
    (hsub : ∀ i ∈ is, i ∈ own.map (·.2)) (hs : ∀ x, foldedSetIterable iter X.env x = pure x := by intro _; rfl) : FN X cm (.DictComp kx vx [⟨tg, iter, ifs, 0⟩] scope pos) (nDc (own.map (·.2)) f h g ke ve) :=
  (pe_dc hc hN hi ok hg ht hk he hs).imp fun σ H Q hh => by
    obtain ⟨C, A, ρ, t, ρ', R, q, k⟩ := hh
    unfold nDc at q
    rw [Option.bind_eq_some_iff] at q
    obtain ⟨⟨ds, ρ1⟩, h1, q⟩ := q
    dsimp only at q
    split at q
    rotate_left
    · cases q
    rename_i hbig
    simp only [Option.bind_eq_some_iff, Option.map_eq_some_iff] at q
    obtain ⟨ρw, h2, ⟨all, ρ2⟩, h3, h4⟩ := q
    cases h4
    exact tDc_core hsub (fun R' hR => ⟨C, A, ρ, ds, ρ1, R, h1, hR⟩) hbig h2 h3 k
end
end G

/-! Ly24: count, index, rindex of one sign. -/
namespace G
open PySem PySem.Spec L2 PySem.StrLaws PySem.Builtin.Str

/-- the places of a sign, from k on -/
def posn (c : Nat) : List Nat → Nat → List Nat
  | [], _ => []
  | d :: r, k => if d = c then k :: posn c r (k + 1) else posn c r (k + 1)
theorem posn_len (c : Nat) : ∀ (s : List Nat) (k : Nat), (posn c s k).length = s.count c
  | [], _ => rfl
  | d :: r, k => by
    unfold posn
    by_cases h : d = c
    · rw [if_pos h, List.length_cons, posn_len c r (k + 1), h, List.count_cons_self]
    · rw [if_neg h, posn_len c r (k + 1), List.count_cons_of_ne h]
theorem posn_filter (c : Nat) (s : List Nat) : ∀ (t : List Nat) (k : Nat), s.drop k = t → ((List.range' k (t.length + 1)).filter fun i => decide (s[i]? = some c)) = posn c t k
  | [], k, h => by
    have : s[k]? = none := List.getElem?_eq_none (List.drop_eq_nil_iff.mp h)
    simp [posn, List.range'_succ, this]
  | d :: t, k, h => by
    have e : s[k]? = some d := by
      have := congrArg (fun l : List Nat => l[0]?) h
      simpa [List.getElem?_drop] using this
    have h2 : s.drop (k + 1) = t := by
      rw [← List.tail_drop, h]; rfl
    rw [List.length_cons, List.range'_succ, List.filter_cons, posn_filter c s t (k + 1) h2, e, show posn c (d :: t) k = if d = c then k :: posn c t (k + 1) else posn c t (k + 1) from rfl]
    by_cases q : d = c <;> simp [q]
theorem occ_run (x : Str) (c limit : Nat) : ∀ (l : List Nat) (f : Array Nat) (free : Nat), l.Pairwise (· < ·) → (∀ i ∈ l, free ≤ i) →
    (forIn l (f, free) (occBody x ⟨#[c]⟩ x.length limit)).run.fst.toList = f.toList ++ (l.filter fun i => decide (x.cps.toList[i]? = some c)).take (limit - f.size)
  | [], f, free, _, _ => by simp
  | a :: l, f, free, hp, hf => by
    rw [List.pairwise_cons] at hp
    rw [List.forIn_cons]
    have ha : free ≤ a := hf a (List.mem_cons_self ..)
    have key := subAt_one x c a
    unfold occBody
    by_cases hc : x.cps.toList[a]? = some c
    · obtain ⟨k1, k2⟩ := key.mpr hc
      by_cases hs : f.size < limit
      · rw [if_pos ⟨⟨⟨hs, ha⟩, k1⟩, k2⟩]
        have ih := occ_run x c limit l (f.push a) (a + 1) hp.2 fun i m => hp.1 i m
        refine ih.trans ?_
        rw [List.filter_cons, if_pos (by simpa using hc), Array.toList_push, Array.size_push, show limit - f.size = (limit - (f.size + 1)) + 1 by omega, List.take_succ_cons]
        simp
      · rw [if_neg (fun z => hs z.1.1.1)]
        have ih := occ_run x c limit l f free hp.2 fun i m => hf i (List.mem_cons_of_mem _ m)
        refine ih.trans ?_
        rw [show limit - f.size = 0 by omega]; simp
    · rw [if_neg (fun z => hc (key.mp ⟨z.1.2, z.2⟩))]
      have ih := occ_run x c limit l f free hp.2 fun i m => hf i (List.mem_cons_of_mem _ m)
      refine ih.trans ?_
      rw [List.filter_cons, if_neg (by simpa using hc)]
theorem S_list (s : List Nat) : (S s).cps.toList = s := by simp [S]
theorem occ_pos (s : List Nat) (c limit : Nat) : occurrences (S s) ⟨#[c]⟩ 0 (S s).length limit = (posn c s 0).take limit := by
  rw [occ_eq, occ_run (S s) c limit _ #[] 0 List.pairwise_lt_range' (fun _ _ => Nat.zero_le _), S_list, S_len]
  have := posn_filter c s s 0 rfl
  rw [Nat.sub_zero, this]
  simp
theorem posn_ge (c : Nat) : ∀ (s : List Nat) (k i : Nat), i ∈ posn c s k ↔ k ≤ i ∧ s[i - k]? = some c
  | [], k, i => by simp [posn]
  | d :: r, k, i => by
    unfold posn
    have ih := posn_ge c r (k + 1) i
    by_cases h : d = c
    · rw [if_pos h, List.mem_cons, ih]
      constructor
      · rintro (rfl | ⟨h1, h2⟩)
        · simp [h]
        · refine ⟨by omega, ?_⟩
          rw [show i - k = (i - (k + 1)) + 1 by omega]; simpa using h2
      · rintro ⟨h1, h2⟩
        by_cases q : i = k
        · exact .inl q
        · refine .inr ⟨by omega, ?_⟩
          rw [show i - k = (i - (k + 1)) + 1 by omega] at h2; simpa using h2
    · rw [if_neg h, ih]
      constructor
      · rintro ⟨h1, h2⟩
        refine ⟨by omega, ?_⟩
        rw [show i - k = (i - (k + 1)) + 1 by omega]; simpa using h2
      · rintro ⟨h1, h2⟩
        by_cases q : i = k
        · subst q; simp at h2; exact absurd h2 h
        · refine ⟨by omega, ?_⟩
          rw [show i - k = (i - (k + 1)) + 1 by omega] at h2; simpa using h2
theorem posn_lt (c : Nat) : ∀ (s : List Nat) (k : Nat), (posn c s k).Pairwise (· < ·)
  | [], _ => .nil
  | d :: r, k => by
    unfold posn
    split
    · refine List.pairwise_cons.mpr ⟨fun i m => ?_, posn_lt c r (k + 1)⟩
      have := ((posn_ge c r (k + 1) i).mp m).1
      omega
    · exact posn_lt c r (k + 1)
theorem last_pos (s : List Nat) (c k : Nat) (h : (posn c s 0).getLast? = some k) : lastOccurrence (S s) ⟨#[c]⟩ 0 (S s).length = some k := by
  have at_iff : ∀ i, At (S s) ⟨#[c]⟩ (S s).length i ↔ s[i]? = some c := fun i => by
    have := subAt_one (S s) c i
    rw [S_list] at this
    exact this
  have mem : ∀ i, i ∈ posn c s 0 ↔ s[i]? = some c := fun i => by
    rw [posn_ge]; simp
  rcases last_spec (S s) ⟨#[c]⟩ with ⟨_, h2⟩ | ⟨i, h1, h2, h3⟩
  · exact absurd ((at_iff k).mpr ((mem k).mp (List.mem_of_getLast? h))) (h2 k)
  · rw [h1]
    congr 1
    have m := (mem i).mpr ((at_iff i).mp h2)
    have mk := List.mem_of_getLast? h
    have hk := (at_iff k).mpr ((mem k).mp mk)
    have a1 : ¬ i < k := fun z => h3 k z hk
    have a2 : i ≤ k := by
      obtain ⟨ys, e⟩ := List.getLast?_eq_some_iff.mp h
      have pw := posn_lt c s 0
      rw [e] at m pw
      rcases List.mem_append.mp m with z | z
      · have := (List.pairwise_append.mp pw).2.2 i z k (by simp)
        omega
      · have : i = k := by simpa using z
        omega
    omega
/-- a text's method with one argument, by data -/
def RTm (K : PySem.W.Frag) (cm : Cm) (r : V → List V → Hp → VK → Prop) (m : List Nat → D → Option D) : Prop := ∀ (A : AS) (H : Hp) (s : List Nat) (y : V) (d z : D) (Q : VK), Ro K cm A H y d → m s d = some z → (∀ v, Rp K cm A H v z → Q v H) → r (.str (S s)) [y] H Q
def eTm (m : List Nat → D → Option D) (f g : Em) : Em := fun ρ => (f ρ).bind fun p => match p.1 with
  | .val (.str a) => (g p.2).bind fun q => (rd q.2 q.1).bind fun d => (m a d).map fun z => (.val z, q.2)
  | _ => none
def cCount (s : List Nat) : D → Option D
  | .str [c] => some (.int (s.count c : Nat))
  | _ => none
def cIndex (s : List Nat) : D → Option D
  | .str [c] => (posn c s 0).head?.map fun k => .int (k : Nat)
  | _ => none
def cRindex (s : List Nat) : D → Option D
  | .str [c] => (posn c s 0).getLast?.map fun k => .int (k : Nat)
  | _ => none
section
variable {X : Cx} {cm : Cm} {pos : Pos} {e o : Expr} {K : PySem.W.Frag}
theorem fe_tm {f g : Em} {m : List Nat → D → Option D} {id : String} {name : Str} {apos : Pos} {r : V → List V → Hp → VK → Prop} (slot : Slot "str" name id) (ty : typeOf (.builtin id) = pure (.type "method_descriptor")) (rule : MtR X id r) (hr : RTm X.K cm r m) (ho : FE X cm o f) (he : FE X cm e g)
    (hs : starEach [e] X.env = [(false, eval e X.env)] := by rfl) (hbase : attributeBase o name X.env (eval o X.env) = eval o X.env := by rfl) (hline : (apos.endLine == pos.line) = true := by rfl) :
    FE X cm (.Call (.Attribute o name apos) [e] [] pos) (eTm m f g) := (pe_m1 slot ty rule ho he hs hbase hline).imp fun σ H Q ⟨C, A, ρ, t, ρ', R, q, k⟩ => by
  unfold eTm at q
  simp only [Option.bind_eq_some_iff] at q
  obtain ⟨⟨r, ρ1⟩, h1, q⟩ := q
  dsimp only at q
  split at q
  rotate_left
  · cases q
  rename_i a
  simp only [Option.bind_eq_some_iff, Option.map_eq_some_iff] at q
  obtain ⟨⟨r2, ρ2⟩, h2, d, h3, z, h4, h5⟩ := q
  cases h5
  refine ⟨C, A, ρ, _, ρ1, R, h1, fun v H1 A1 l1 R1 w1 => ?_⟩
  cases w1
  refine ⟨⟨S a, rfl⟩, C, A1, ρ1, r2, ρ2, R1, h2, fun y H2 A2 l2 R2 w2 => ?_⟩
  exact hr A2 H2 a y d z Q (rd_ok R2 w2 h3) h4 fun v rv => k v H2 A2 (l1.trans l2) R2 rv
theorem rt_count : RTm K cm (fun x xs H Q => ∃ a b, x = .str a ∧ xs = [.str b] ∧ Q (.int (Txt.count a b)) H) cCount := by
  intro A H s y d z Q ro e k
  unfold cCount at e
  split at e
  · rename_i c
    cases e
    cases ro.str
    refine ⟨S s, S [c], rfl, rfl, ?_⟩
    have h : Txt.count (S s) (S [c]) = (s.count c : Nat) := by
      show ((occurrences (S s) ⟨#[c]⟩ 0 (S s).length ((S s).length + 1)).length : Int) = _
      rw [occ_pos, List.take_of_length_le (by rw [posn_len, S_len]; exact Nat.le_succ_of_le List.count_le_length), posn_len]
    rw [h]
    exact k _ (.int _)
  · cases e
theorem rt_index : RTm K cm (fun x xs H Q => ∃ a b i rest, x = .str a ∧ xs = [.str b] ∧ Builtin.Str.occurrences a b 0 a.length 1 = i :: rest ∧ Q (.int (i : Nat)) H) cIndex := by
  intro A H s y d z Q ro e k
  unfold cIndex at e
  split at e
  · rename_i c
    rw [Option.map_eq_some_iff] at e
    obtain ⟨i, e1, rfl⟩ := e
    cases ro.str
    refine ⟨S s, S [c], i, [], rfl, rfl, ?_, k _ (.int _)⟩
    show occurrences (S s) ⟨#[c]⟩ 0 (S s).length 1 = [i]
    rw [occ_pos]
    cases q : posn c s 0 with
    | nil => rw [q] at e1; cases e1
    | cons a r => rw [q] at e1; cases e1; rfl
  · cases e
def rRix : V → List V → Hp → VK → Prop := fun x xs H Q => ∃ (a b : Str) (k : Nat), x = .str a ∧ xs = [.str b] ∧ lastOccurrence a b 0 a.length = some k ∧ Q (.int (k : Nat)) H
theorem mt_rix : MtR X "str.rindex" rRix := by
  intro pins s σ H x xs v us Q I rx rs h
  obtain ⟨a, b, k, rfl, rfl, q, w⟩ := h
  obtain ⟨t, rfl⟩ := rx
  cases rs with
  | cons r1 rs =>
    cases rs
    obtain ⟨u, rfl⟩ := r1
    exact call_gives PySem.F.slot_str_rindex (typeIs_str _ _ _) PySem.F.entry_str_rindex (PySem.F.args_str_rindex_2 _ _) (gives_str_rindex a b t u k q) ⟨.int (k : Nat), H, I.tok _, ⟨_, rfl⟩, w⟩
theorem rt_rindex : RTm K cm rRix cRindex := by
  intro A H s y d z Q ro e k
  unfold cRindex at e
  split at e
  · rename_i c
    rw [Option.map_eq_some_iff] at e
    obtain ⟨i, e1, rfl⟩ := e
    cases ro.str
    exact ⟨S s, S [c], i, rfl, rfl, last_pos s c i e1, k _ (.int _)⟩
  · cases e
end
end G

/-! Ly25: list(..), tuple(..), extend, insert; a call with a fresh first argument. -/
namespace G
open PySem PySem.Spec L2

/-! ### list, tuple of a list or tuple -/
def cList : List D → Option (List D)
  | [d] => lstD d
  | _ => none
theorem ro_seq {K : PySem.W.Frag} {cm : Cm} {A : AS} {H : Hp} {v : V} {d : D} {ds : List D} (h : Ro K cm A H v d) (e : lstD d = some ds) : ∃ p xs, v = .ref p ∧ (SqL K H p xs ∨ SqT K H p xs) ∧ RpL K cm A H xs ds := by
  cases d <;> cases e
  · obtain ⟨p, xs, e, hs, r⟩ := h.tup
    exact ⟨p, xs, e, .inr hs, r⟩
  · obtain ⟨p, xs, e, hs, r⟩ := h.ls
    exact ⟨p, xs, e, .inl hs, r⟩
theorem rc_list {K : PySem.W.Frag} {cm : Cm} : RCN K cm (fun xs H Q => ∃ p ys, xs = [.ref p] ∧ (SqL K H p ys ∨ SqT K H p ys) ∧ ∀ l, H l = none → Q (.ref l) (upd H l (.lst ys))) cList := by
  intro A H vs ds es Q hd hl hr e k
  unfold cList at e
  split at e
  · obtain ⟨v, rfl, r⟩ := hr.one
    obtain ⟨p, xs, rfl, hq, rl⟩ := ro_seq r e
    exact ⟨p, xs, rfl, hq, fun l hn => k l xs hn rl⟩
  · cases e
def cTuple : List D → Option D
  | [.lst ds] => some (.tup ds)
  | [.tup ds] => some (.tup ds)
  | _ => none
theorem rc_tuple {K : PySem.W.Frag} {cm : Cm} : RC K cm (fun xs H Q => ∃ p ys, xs = [.ref p] ∧ ((SqL K H p ys ∧ ∀ l, H l = none → Q (.ref l) (upd H l (.tup ys))) ∨ (SqT K H p ys ∧ Q (.ref p) H))) cTuple := by
  intro A H vs ds dz Q hd hl hr e k
  unfold cTuple at e
  split at e
  · cases e
    obtain ⟨v, rfl, r⟩ := hr.one
    obtain ⟨p, xs, rfl, hq, rl⟩ := r.ls
    exact ⟨p, xs, rfl, .inl ⟨hq, fun l hn => k _ _ (same_new hn) (new_tup hd hn rl)⟩⟩
  · cases e
    obtain ⟨v, rfl, r⟩ := hr.one
    have rp := SqT_nil_ref r
    obtain ⟨p, xs, rfl, hq, rl⟩ := r.tup
    exact ⟨p, xs, rfl, .inr ⟨hq, k _ H (.refl H) rp⟩⟩
  · cases e
/-! ### insert -/
def mIns : List D → List D → Option (D × List D)
  | ds, [.int i, d] => if ds.length < big ∧ 0 ≤ i ∧ i.natAbs < 2 ^ 60 then some (.non, ds.take i.toNat ++ [d] ++ ds.drop i.toNat) else none
  | _, _ => none
theorem rm_ins {K : PySem.W.Frag} {cm : Cm} : RM K cm (fun x vs H Q => ∃ (l : Addr) (xs : List V) (i : Int) (y : V), x = .ref l ∧ vs = [.int i, y] ∧ H l = some (.lst xs) ∧ xs.length < sizeLine ∧ 0 ≤ i ∧ i < 2 ^ 63 ∧
    Q .non (upd H l (.lst (xs.take i.toNat ++ [y] ++ xs.drop i.toNat)))) mIns := by
  intro A H l xs vs ds es ds' z Q hl rx re e k
  unfold mIns at e
  split at e
  · split at e
    · rename_i hz
      cases e
      cases re with
      | cons r1 re => cases re with
        | cons r2 re =>
          cases re; cases r1
          refine ⟨l, xs, _, _, rfl, rfl, hl, big_lt (by rw [rx.length]; omega), hz.2.1, by omega, k _ _ .non ?_⟩
          exact ((rx.take _).app (.one r2)).app (rx.drop _)
    · cases e
  · cases e
/-! ### a call whose first argument is fresh, the others are values -/
section
variable {K : PySem.W.Frag} {cm : Cm} {A A' : AS} {H H' : Hp} {C : Fc} {σ : L2.St} {ρ ρ' : Rho} {F0 : List Addr}
theorem RS.argFs {v : V} {t : T} {vs : List V} {ds : List D} (R : RS K cm C A F0 σ H ρ) (r : RT K cm A H v t F0) (n : F0.Nodup) (hF : ∀ a ∈ F0, C.H0 a = none ∧ A a ∧ ¬ C.A0 a) (rl : RpL K cm A H vs ds) :
    RS K cm (cIn H (fun a => a ∈ F0) A (v :: vs)) A [] ((v :: vs).map some) H (.pin t :: slP ds) := by
  refine ⟨by simp [slP, rl.length], ⟨fun i => if i = 0 then F0 else [], fun i => ?_, fun i j a m m' => ?_, fun i a m => ?_, fun i e => ?_, fun i s e => ?_⟩, fun a z => z.1, fun a z => ?_, R.dom, fun _ _ e _ _ => e, fun _ e => e, R.tb, R.ne⟩
  · dsimp only; split
    · exact n
    · exact .nil
  · dsimp only at m m'
    split at m <;> split at m' <;> first | omega | (exact absurd m (by simp)) | (exact absurd m' (by simp))
  · dsimp only at m
    split at m
    · exact ⟨(hF a m).2.1, fun z => z.2 m, fun z => nomatch z⟩
    · cases m
  · dsimp only
    split
    · rename_i z; rw [z] at e; cases e
    · rfl
  · cases i with
    | zero =>
      cases e
      exact ⟨some v, rfl, v, rfl, rfl, r, fun a m => .inl m⟩
    | succ i =>
      simp only [slP, List.getElem?_cons_succ, List.getElem?_map, Option.map_eq_some_iff] at e
      obtain ⟨d, e1, rfl⟩ := e
      obtain ⟨u, e2, r2⟩ := rl.get e1
      refine ⟨some u, by simp [e2], ?_⟩
      exact ⟨u, rfl, RT.pure r2, fun a m => nomatch m⟩
  · by_cases q : a ∈ F0
    · exact .inr (.inl q)
    · exact .inl ⟨z, q⟩
end
def pls : List T → Option (List D)
  | [] => some []
  | t :: ts => t.u.bind fun d => (pls ts).map fun r => d :: r
theorem pls_ok {K : PySem.W.Frag} {cm : Cm} {A : AS} {H : Hp} : ∀ {vs : List V} {ts : List T} {F : List Addr} {ds : List D}, RTL K cm A H vs ts F → pls ts = some ds → F = [] ∧ RpL K cm A H vs ds
  | [], [], F, ds, h, e => by cases e; exact ⟨h, .nil⟩
  | v :: vs, t :: ts, F, ds, h, e => by
    simp only [pls, Option.bind_eq_some_iff, Option.map_eq_some_iff] at e
    obtain ⟨d, e1, r, e2, e3⟩ := e
    cases e3
    obtain ⟨F1, F2, rfl, h1, h2⟩ := h
    obtain ⟨rfl, rl⟩ := pls_ok h2 e2
    cases t <;> cases e1
    obtain ⟨rfl, rp⟩ := h1
    exact ⟨rfl, .cons rp rl⟩
  | [], _ :: _, _, _, h, _ => h.elim
  | _ :: _, [], _, _, h, _ => h.elim
/-- the first argument fresh (or moved), the others values -/
def nCallG (n : Nat) (f : Rho → Option (T × Rho)) (g : Mm) : Rho → Option (T × Rho) := fun ρ => (g ρ).bind fun p => match p.1 with
  | t :: ts => (pls ts).bind fun ds => if ds.length + 1 = n then (f (.pin t :: slP ds)).map fun r => (r.1, p.2) else none
  | [] => none
section
variable {X : Cx} {cm : Cm} {pos p : Pos} {e : Expr} {es : List Expr}
theorem tN_callG {K : PySem.W.Frag} {n : Nat} {m : Rho → Option (T × Rho)} {g : Mm} {σ : L2.St} {H : Hp} {Q : VK} {E : XK} (h : tN K cm (nCallG n m g) σ H Q) : tCall (spG K cm n m) [] E (tM K cm g) σ H Q := by
  obtain ⟨C, A, ρ, t, ρ', R, q, kk⟩ := h
  simp only [nCallG, Option.bind_eq_some_iff] at q
  obtain ⟨⟨ts, ρ1⟩, h1, q⟩ := q
  dsimp only at q
  split at q
  rotate_left
  · cases q
  rename_i t0 ts0
  simp only [Option.bind_eq_some_iff] at q
  obtain ⟨ds, h2, q⟩ := q
  split at q
  rotate_left
  · cases q
  rename_i hn
  rw [Option.map_eq_some_iff] at q
  obtain ⟨⟨t', ss'⟩, h3, h4⟩ := q
  cases h4
  refine ⟨C, A, ρ, t0 :: ts0, _, R, h1, fun vs H1 A1 F l1 R1 rt nd hF => ?_⟩
  show spG K cm n m (vs ++ []) H1 Q E
  rw [List.append_nil]
  match vs, rt with
  | [], q => exact q.elim
  | v :: vs, ⟨F1, F2, e, rt, rtl⟩ =>
    obtain ⟨e2, rl⟩ := pls_ok rtl h2
    subst e2
    rw [List.append_nil] at e
    subst e
    refine ⟨by rw [List.length_cons, rl.length]; exact hn, _, A1, _, _, ss', R1.argFs rt nd hF rl, h3, fun v' H' A' F' σ' lt R' rt' hnd hF' => ?_⟩
    obtain ⟨l2, R2, hF2⟩ := R1.afterF hF lt R' hF'
    exact kk v' H' A' F' (l1.trans l2) R2 rt' hnd hF2
theorem fn_callG {ps : List Str} {k j n : Nat} {x : Str} {m : Rho → Option (T × Rho)} {g : Mm} (D : Dg X.prog X.w X.K X.mg X.base cm k x ps m) (hr : Room j X.A) (hk : k ≤ j) (hg : Gl X x) (ha : FM X cm (e :: es) g) (hn : ps.length = n := by rfl)
    (hdb : (x == ("__debug__" : Str)) = false := by decide) (he : starEach (e :: es) X.env = (false, eval e X.env) :: starEach es X.env := by rfl) (hpl : (backTo pos (starEach es X.env)).any (·.1) = false := by rfl) :
    FN X cm (.Call (.Name x p) (e :: es) [] pos) (nCallG n m g) := by
  subst hn
  obtain ⟨f, fd, F, hm, hkp, hb⟩ := D
  exact (pe_call F (hr.mono hk) hg hm hkp hb .nil pass0 ha hdb he hpl).imp fun σ H Q q => tN_callG q
end
end G

/-! Ly26: extend by a fresh list. -/
namespace G
open PySem PySem.Spec L2

def eExt (i : Nat) (g : Rho → Option (T × Rho)) : Em := fun ρ => (isLs ρ i).bind fun _ => (g ρ).bind fun p => match p.1 with
  | .ls zs => (isLs p.2 i).bind fun s => if s.2.length + zs.length ≤ big then some (.val .non, p.2.set i (s.1.w (.ls (s.2 ++ zs)))) else none
  | _ => none
section
variable {X : Cx} {cm : Cm} {pos : Pos} {e o : Expr}
theorem fe_ext {i : Nat} {apos cpos : Pos} {g : Rho → Option (T × Rho)} (ho : PE X o (tVar i)) (ha : FN X cm e g)
    (hbase : attributeBase o "extend" X.env (eval o X.env) = eval o X.env := by rfl)
    (hfew : ((backTo cpos (starEach [e] X.env)).all (fun x => !x.1) && (backToKw cpos (keywordEach [] X.env)).all (fun x => x.1.isSome)
      && decide ([e].length + ([] : List Keyword).length + (if ([] : List Keyword).isEmpty then 0 else 1) < 30)) = true := by rfl)
    (hline : (apos.endLine == cpos.line) = true := by rfl) (hs : starEach [e] X.env = (false, eval e X.env) :: starEach [] X.env := by rfl) (hplain : (backTo cpos (starEach ([] : List Expr) X.env)).any (·.1) = false := by rfl) :
    FE X cm (.Call (.Attribute o "extend" apos) [e] [] cpos) (eExt i g) :=
  (pe_bm PySem.F.plainAttrs_list PySem.F.slot_list_extend PySem.F.type_list_extend mt_extend ho (fm_cons ha fm_nil hs) hbase hfew hline hs hplain).imp fun σ H Q ⟨C, A, ρ, t, ρ', R, q, k⟩ => by
    unfold eExt at q
    simp only [Option.bind_eq_some_iff] at q
    obtain ⟨⟨s0, ds0⟩, h0, ⟨t1, ρ1⟩, h1, q⟩ := q
    dsimp only at q
    split at q
    rotate_left
    · cases q
    rename_i zs
    simp only [Option.bind_eq_some_iff] at q
    obtain ⟨⟨s, ds⟩, h3, q⟩ := q
    split at q
    rotate_left
    · cases q
    rename_i hz
    cases q
    obtain ⟨e0, t0⟩ := isLs_some h0
    obtain ⟨l0, xs0, v0, hl0, _⟩ := R.list e0 t0
    refine ⟨_, v0, .inl ⟨rfl, xs0, .inl (.inl hl0)⟩, C, A, ρ, [.ls zs], ρ1, R, by simp [mCons, mNil, h1], fun vs H1 A1 F l1 R1 rt n hF => ?_⟩
    match vs, rt with
    | [], q => exact q.elim
    | _ :: _ :: _, ⟨_, _, _, _, q⟩ => exact q.elim
    | [v], ⟨F1, F2, e, rt, e2⟩ =>
      cases e2
      rw [List.append_nil] at e
      subst e
      obtain ⟨b, zs', rfl, hFb, hb, rz⟩ := rt
      obtain ⟨e1, t1'⟩ := isLs_some h3
      obtain ⟨l, xs, v1, hl, rl, put⟩ := R1.list e1 t1'
      rw [v0] at v1; cases v1
      obtain ⟨R2, l2⟩ := put (xs ++ zs') (ds ++ zs) (rl.app rz)
      refine ⟨l0, b, xs, zs', rfl, rfl, hl, hb, big_le (by rw [rl.length, rz.length]; exact hz), ?_⟩
      exact k _ _ _ ((l1.trans l2).less fun a z => z.1) (RS.drop (fun a m => (hF a m).2.2) R2) .non
end
end G

/-! Ly27: sorted of a list of texts. -/
namespace G
open PySem PySem.Spec L2

def insT (a : List Nat) : List (List Nat) → List (List Nat)
  | [] => [a]
  | b :: r => if b < a then b :: insT a r else a :: b :: r
def tsort : List (List Nat) → List (List Nat)
  | [] => []
  | a :: r => insT a (tsort r)
theorem insT_perm (a : List Nat) : ∀ l, (insT a l).Perm (a :: l)
  | [] => .refl _
  | b :: r => by
    unfold insT
    split
    · exact ((insT_perm a r).cons b).trans (.swap a b r)
    · exact .refl _
theorem tsort_perm : ∀ l, (tsort l).Perm l
  | [] => .refl _
  | a :: r => (insT_perm a _).trans ((tsort_perm r).cons a)
theorem insT_le (a : List Nat) : ∀ l : List (List Nat), l.Pairwise (· ≤ ·) → (insT a l).Pairwise (· ≤ ·)
  | [], _ => by simp [insT]
  | b :: r, h => by
    rw [List.pairwise_cons] at h
    unfold insT
    split
    · rename_i hb
      refine List.pairwise_cons.mpr ⟨fun x m => ?_, insT_le a r h.2⟩
      rcases List.mem_cons.mp ((insT_perm a r).mem_iff.mp m) with z | z
      · rw [z]; exact List.not_lt.mp (List.lt_asymm hb)
      · exact h.1 x z
    · rename_i hb
      have hab : a ≤ b := List.not_lt.mp hb
      refine List.pairwise_cons.mpr ⟨fun x m => ?_, List.pairwise_cons.mpr h⟩
      rcases List.mem_cons.mp m with z | z
      · rw [z]; exact hab
      · exact List.le_trans hab (h.1 x z)
theorem tsort_le : ∀ l, (tsort l).Pairwise (· ≤ ·)
  | [] => .nil
  | a :: r => insT_le a _ (tsort_le r)
abbrev tlS (y : Str) : List Nat := y.cps.toList
theorem S_tl (y : Str) : S (tlS y) = y := by
  cases y
  show Str.mk _ = Str.mk _
  simp
theorem rising_le : ∀ (p : Str) (ys : List Str), PyProof.Rows.risingS p ys = true → ((p :: ys).map tlS).Pairwise (· ≤ ·)
  | p, [], _ => by simp
  | p, y :: ys, r => by
    have r' : (!ltCps (tlS y) (tlS p) && PyProof.Rows.risingS y ys) = true := r
    rw [Bool.and_eq_true] at r'
    have ih := rising_le y ys r'.2
    have hle : tlS p ≤ tlS y := by
      have q := r'.1
      rw [PyProof.Rows.ltCps_eq] at q
      exact List.not_lt.mp (by simpa using q)
    rw [List.map_cons]
    refine List.pairwise_cons.mpr ⟨fun x m => ?_, ih⟩
    rw [List.map_cons] at ih m
    rcases List.mem_cons.mp m with z | z
    · rw [z]; exact hle
    · exact List.le_trans hle ((List.pairwise_cons.mp ih).1 x z)
theorem sortedS_le (ys : List Str) (r : PyProof.Rows.sortedS ys = true) : (ys.map tlS).Pairwise (· ≤ ·) := by
  cases ys with
  | nil => exact .nil
  | cons y ys => exact rising_le y ys r
theorem sorted_texts (ss : List (List Nat)) (ys : List Str) (pm : ys.Perm (ss.map S)) (r : PyProof.Rows.sortedS ys = true) : ys = (tsort ss).map S := by
  have p2 : (ys.map tlS).Perm ss := by
    have q := pm.map tlS
    rw [List.map_map] at q
    have e : ss.map (tlS ∘ S) = ss := by
      have : (tlS ∘ S) = id := funext fun s => by simp [S]
      rw [this, List.map_id]
    rwa [e] at q
  have e := List.Perm.eq_of_pairwise (fun a b _ _ h1 h2 => List.le_antisymm h1 h2) (sortedS_le ys r) (tsort_le ss) (p2.trans (tsort_perm ss).symm)
  have e2 : ys = (ys.map tlS).map S := by
    rw [List.map_map]
    have : (S ∘ tlS) = id := funext fun y => S_tl y
    rw [this, List.map_id]
  rw [e2, e]
def cSortT : List D → Option (List D)
  | [.lst ds] => (strL ds).bind fun ss => if ss.length < 64 then some ((tsort ss).map .str) else none
  | _ => none
theorem rpl_str {K : PySem.W.Frag} {cm : Cm} {A : AS} {H : Hp} : ∀ ss : List (List Nat), RpL K cm A H ((ss.map S).map V.str) (ss.map .str)
  | [] => .nil
  | s :: ss => .cons (.str s) (rpl_str ss)
theorem rc_sortT {K : PySem.W.Frag} {cm : Cm} : RCN K cm (rSortedS K) cSortT := by
  intro A H vs ds es Q hd hl hr e k
  unfold cSortT at e
  split at e
  · rw [Option.bind_eq_some_iff] at e
    obtain ⟨ss, e1, e2⟩ := e
    split at e2
    · rename_i hz
      cases e2
      obtain ⟨v, rfl, r⟩ := hr.one
      obtain ⟨a, xs, rfl, hs, rl⟩ := r.ls
      have := strL_ok rl e1
      subst this
      refine ⟨a, ss.map S, rfl, hs, by rw [List.length_map]; exact hz, fun ys p pm so hp => ?_⟩
      rw [sorted_texts ss ys pm so]
      exact k p _ hp (rpl_str _)
    · cases e2
  · cases e
end G

/-! Ly28: calls by names alone. -/
namespace G
open PySem PySem.Spec L2


/-- the values in the parameters' order -/
def pm {α : Type} (π : List Nat) (l : List α) : List α := π.filterMap fun i => l[i]?
theorem pm_pair {α β : Type} {R : α → β → Prop} {xs : List α} {ys : List β} (h : ∀ i : Nat, (xs[i]? = none ∧ ys[i]? = none) ∨ ∃ a b, xs[i]? = some a ∧ ys[i]? = some b ∧ R a b) (P : List α → List β → Prop) (p0 : P [] []) (p1 : ∀ a b as bs, R a b → P as bs → P (a :: as) (b :: bs)) : ∀ π : List Nat, P (pm π xs) (pm π ys)
  | [] => p0
  | i :: π => by
    have ih := pm_pair h P p0 p1 π
    unfold pm at ih ⊢
    rw [List.filterMap_cons, List.filterMap_cons]
    rcases h i with ⟨h1, h2⟩ | ⟨a, b, h1, h2, r⟩
    · rw [h1, h2]; exact ih
    · rw [h1, h2]; exact p1 a b _ _ r ih
theorem vals_at : ∀ {vs : List V} {us : List Value}, Vals vs us → ∀ i : Nat, (vs[i]? = none ∧ us[i]? = none) ∨ ∃ a b, vs[i]? = some a ∧ us[i]? = some b ∧ RelV a b
  | _, _, .nil, i => .inl ⟨by simp, by simp⟩
  | _, _, .cons h t, 0 => .inr ⟨_, _, rfl, rfl, h⟩
  | _, _, .cons h t, i + 1 => by simpa using vals_at t i
theorem pm_vals {vs : List V} {us : List Value} (h : Vals vs us) (π : List Nat) : Vals (pm π vs) (pm π us) := pm_pair (vals_at h) (fun a b => Vals a b) .nil (fun _ _ _ _ r t => .cons r t) π
theorem rpl_at {K : PySem.W.Frag} {cm : Cm} {A : AS} {H : Hp} : ∀ {vs : List V} {ds : List D}, RpL K cm A H vs ds → ∀ i : Nat, (vs[i]? = none ∧ ds[i]? = none) ∨ ∃ a b, vs[i]? = some a ∧ ds[i]? = some b ∧ Rp K cm A H a b
  | _, _, .nil, i => .inl ⟨by simp, by simp⟩
  | _, _, .cons h t, 0 => .inr ⟨_, _, rfl, rfl, h⟩
  | _, _, .cons h t, i + 1 => by simpa using rpl_at t i
theorem pm_rpl {K : PySem.W.Frag} {cm : Cm} {A : AS} {H : Hp} {vs : List V} {ds : List D} (h : RpL K cm A H vs ds) (π : List Nat) : RpL K cm A H (pm π vs) (pm π ds) := pm_pair (rpl_at h) (fun a b => RpL K cm A H a b) .nil (fun _ _ _ _ r t => .cons r t) π
/-- a def that stands at its name, called by names -/
def Dk (P : Program) (w : World) (K : PySem.W.Frag) (mg : Str → Option Value) (base : Heap) (cm : Cm) (k : Nat) (x : Str) (ps ks : List Str) (π : List Nat) (m : Rho → Option (T × Rho)) : Prop :=
  ∃ f fd, FnG P w K mg base cm k f fd ps m ∧ mg x = some (.ref f) ∧ PySem.W.keepIn K (.ref f) = true ∧ KBn K fd ps 0 ks (fun _ ws => pm π ws) (fun _ zs => pm π zs)
theorem Dn.kb {K : PySem.W.Frag} {mg : Str → Option Value} {x : Str} {st : Stmt} {ps : List Str} {f : Addr} {fd : FuncData} (D : Dn K mg x st ps f fd) (ks : List Str) (π : List Nat)
    (h : ∀ (kV doc pmv : Value) (an : Option Addr) (cdv ct : Value) (ws : List Value), ws.length = ks.length → bindArgs (PySem.W.fnOf x x (defArgs st) (defBody st) (defScope st) .none kV doc pmv an cdv ct) ⟨[], ks.zip ws⟩ = pure (ps.zip (pm π ws))) : KBn K fd ps 0 ks (fun _ ws => pm π ws) (fun _ zs => pm π zs) := by
  obtain ⟨oc, od, kV, doc, pmv, an, cdv, ct, osl, rfl, lk, hcd⟩ := D.F.ex
  refine ⟨fun s us ws X l1 l2 => ?_, fun r1 r2 => pm_vals r2 π⟩
  obtain rfl := List.eq_nil_of_length_eq_zero l1
  exact .of_eq (h kV doc pmv an cdv ct ws l2)
theorem Dn.mk' {P : Program} {w : World} {K : PySem.W.Frag} {mg : Str → Option Value} {base : Heap} {cm : Cm} {x : Str} {st : Stmt} {ps : List Str} {f : Addr} {fd : FuncData} {k : Nat} {m : Rho → Option (T × Rho)} (D : Dn K mg x st ps f fd) (G : FnG P w K mg base cm k f fd ps m) : Dg P w K mg base cm k x ps m := ⟨f, fd, G, D.m, D.F.kp, D.b⟩
theorem Dn.mkK {P : Program} {w : World} {K : PySem.W.Frag} {mg : Str → Option Value} {base : Heap} {cm : Cm} {x : Str} {st : Stmt} {ps : List Str} {f : Addr} {fd : FuncData} {k : Nat} {m : Rho → Option (T × Rho)} (D : Dn K mg x st ps f fd) (G : FnG P w K mg base cm k f fd ps m) (ks : List Str) (π : List Nat)
    (h : ∀ (kV doc pmv : Value) (an : Option Addr) (cdv ct : Value) (ws : List Value), ws.length = ks.length → bindArgs (PySem.W.fnOf x x (defArgs st) (defBody st) (defScope st) .none kV doc pmv an cdv ct) ⟨[], ks.zip ws⟩ = pure (ps.zip (pm π ws))) : Dk P w K mg base cm k x ps ks π m := ⟨f, fd, G, D.m, D.F.kp, D.kb ks π h⟩
section
variable {X : Cx} {cm : Cm} {pos p kpos : Pos} {e : Expr} {kws : List Keyword} {nm : Option Str}
theorem _root_.L2.PK.imp {t t' : TA} (h : PK X kws t) (i : ∀ σ H Q, t' σ H Q → t σ H Q) : PK X kws t' := ⟨fun pos pins s σ H Q I q => h.run pos pins s σ H Q I (i σ H Q q)⟩
abbrev FK (X : Cx) (cm : Cm) (kws : List Keyword) (f : Am) : Prop := PK X kws (tAs X.K cm f)
theorem fk_nil : FK X cm [] aNil := pk_nil.imp fun σ H Q ⟨C, A, ρ, t, ρ', R, q, k⟩ => by
  cases q
  exact k [] H A (.refl A H) R .nil
theorem fk_cons {f : Em} {g : Am} (ha : FE X cm e f) (hr : FK X cm kws g) : FK X cm (⟨nm, e, kpos⟩ :: kws) (aCons f g) := (pk_cons ha hr).imp fun σ H Q ⟨C, A, ρ, t, ρ', R, q, k⟩ => by
  simp only [aCons, Option.bind_eq_some_iff, Option.map_eq_some_iff] at q
  obtain ⟨⟨r, ρ1⟩, h1, ⟨rs, ρ2⟩, h2, h3⟩ := q
  cases h3
  exact ⟨C, A, ρ, r, ρ1, R, h1, fun v H1 A1 l1 R1 w1 => ⟨C, A1, ρ1, rs, ρ2, R1, h2, fun vs H2 A2 l2 R2 w2 => k _ H2 A2 (l1.trans l2) R2 (.cons (w1.later l2) w2)⟩⟩
def nCallK (n : Nat) (π : List Nat) (f : Rho → Option (T × Rho)) (g : Am) : Rho → Option (T × Rho) := fun ρ => (g ρ).bind fun p => (pus p.2 p.1).bind fun ds => if ds.length = n ∧ (pm π ds).length = n then (f (slP (pm π ds))).map fun r => (r.1, p.2) else none
theorem fn_callK {ps ks : List Str} {π : List Nat} {k j n : Nat} {x : Str} {m : Rho → Option (T × Rho)} {g : Am} (D : Dk X.prog X.w X.K X.mg X.base cm k x ps ks π m) (hr : Room j X.A) (hk : k ≤ j) (hg : Gl X x) (hkw : FK X cm kws g) (hn : ps.length = n := by rfl) (hn2 : ks.length = n := by rfl)
    (hall : (backToKw pos (keywordEach kws X.env)).all (·.1.isSome) = true := by rfl) (hks : (backToKw pos (keywordEach kws X.env)).filterMap (·.1) = ks := by rfl) (hdb : (x == ("__debug__" : Str)) = false := by decide)
    (hpl : ((backTo pos (starEach [] X.env)).any (·.1) || (backToKw pos (keywordEach kws X.env)).any (·.1.isNone)) = false := by rfl) : FN X cm (.Call (.Name x p) [] kws pos) (nCallK n π m g) := by
  subst hn
  obtain ⟨f, fd, F, hm, hkp, hb⟩ := D
  refine ⟨fun pins s σ H Q I ⟨C, A, ρ, t, ρ', R, q, kk⟩ => ?_⟩
  unfold nCallK at q
  simp only [Option.bind_eq_some_iff] at q
  obtain ⟨⟨rs, ρ1⟩, h1, ds, h2, h3⟩ := q
  dsimp only at h3
  split at h3
  rotate_left
  · cases h3
  rename_i hlen
  rw [Option.map_eq_some_iff] at h3
  obtain ⟨⟨t', ss'⟩, h4, h5⟩ := h3
  cases h5
  refine wpAny_Call_Name_kw (ld_glob I hg hm ?_ hdb)
  refine PySem.W.callWith_KW0 (h₀ := X.base) I.ok.mod.kin hkp hall ?_ hpl
  refine thn (hkw.run pos pins s σ H (fun zs H2 => zs.length = ps.length ∧ spG X.K cm ps.length m (pm π zs) H2 Q E0) I ⟨C, A, ρ, rs, _, R, h1, fun vs H1 A1 l1 R1 w1 => ?_⟩) fun ws s2 ⟨zs, H2, I2, rz, l2, q2⟩ => ⟨I2.kIn, ?_⟩
  · have rl := pus_ok R1 w1 h2
    exact ⟨by rw [rl.length]; exact hlen.1, spG_of R1 (pm_rpl rl π) hlen.2 h4 fun v H' A' F l R2 rt hnd hF => kk v H' A' F (l1.trans l) R2 rt hnd hF⟩
  · rw [hks]
    exact run_fnN (us := []) (vs := []) F (hr.mono hk) hb pass0 I2 .nil rz rfl (by rw [l2, hn2]) q2
end
end G

/-! Ly29: comprehensions of two. -/
namespace G
open PySem PySem.Spec L2

def lc2F (own own1 : List Nat) (h : D → Rho → Option Rho) (ifs : Bm) (f1 : Im) (h1 : D → Rho → Option Rho) (ifs1 : Bm) (elt : Em) : List D → Rho → Option (List D × Rho)
  | [], ρ => some ([], ρ)
  | d :: ds, ρ => (h d ρ).bind fun ρ1 => (ifs ρ1).bind fun p => if p.1 then (f1 p.2).bind fun q => (wipeS own1 q.2).bind fun ρ2 => (lcF own1 h1 ifs1 elt q.1 ρ2).bind fun r => (wipeS own r.2).bind fun ρ3 => (lc2F own own1 h ifs f1 h1 ifs1 elt ds ρ3).map fun z => (r.1 ++ z.1, z.2)
      else (wipeS own p.2).bind fun ρ3 => lc2F own own1 h ifs f1 h1 ifs1 elt ds ρ3
def nLc2 (own own1 : List Nat) (f : Im) (h : D → Rho → Option Rho) (ifs : Bm) (f1 : Im) (h1 : D → Rho → Option Rho) (ifs1 : Bm) (elt : Em) : Rho → Option (T × Rho) := fun ρ => (f ρ).bind fun p => (wipeS own p.2).bind fun ρw => (lc2F own own1 h ifs f1 h1 ifs1 elt p.1 ρw).bind fun r => if r.1.length ≤ big then some (.ls r.1, back p.2 r.2 own) else none
theorem wipe_sub {σ : L2.St} {own own1 : List Nat} (hv : ∀ i ∈ own1, i ∈ own) : wipe (wipe σ own1) own = wipe σ own := wipe_same (wipe_length σ own1) fun j hj => by rw [wipe_get, if_neg (fun z => hj (hv j z.1))]
section
variable {X : Cx} {cm : Cm} {pos : Pos} {elt tg iter tg1 iter1 : Expr} {ifs ifs1 : List Expr}
theorem tLc2_core {K : PySem.W.Frag} {wi : TI} {own own1 is is1 : List Nat} {ds all : List D} {h h1 : D → Rho → Option Rho} {g g1 : Bm} {f1 : Im} {el : Em} {σ : L2.St} {H : Hp} {Q : VK} {C : Fc} {A : AS} {ρ1 ρw ρ2 : Rho} (hv : ∀ i ∈ own1, i ∈ own) (hsub : ∀ i ∈ is, i ∈ own) (hsub1 : ∀ i ∈ is1, i ∈ own1)
    (hw : ∀ R' : It → Hp → Prop, (∀ J H1 A1 W, Lt C A H A1 H1 → RS K cm C A1 [] σ H1 ρ1 → ItOk K cm J W ds → W A1 H1 → R' J H1) → wi σ H R') (hbig : all.length ≤ big) (h2 : wipeS own ρ1 = some ρw) (h3 : lc2F own own1 h g f1 h1 g1 el ds ρw = some (all, ρ2))
    (k : ∀ v H' A' F, Lt C A H A' H' → RS K cm C A' F σ H' (back ρ1 ρ2 own) → RT K cm A' H' v (.ls all) F → F.Nodup → (∀ a ∈ F, C.H0 a = none ∧ A' a ∧ ¬ C.A0 a) → Q v H') : tLc2 wi (tG K cm is h) (tT K cm g) (tI K cm f1) (tG K cm is1 h1) (tT K cm g1) (tE K cm el) own own1 σ H Q := by
  refine hw _ fun J H1 A1 W l1 R1 hJ w1 D hD => ?_
  obtain ⟨lD, RD, hF⟩ := G.own1 (o := .lst []) R1 hD
  have hA0 : ¬ C.A0 D := (hF D (by simp)).2.2
  have hH0 : C.H0 D = none := (hF D (by simp)).1
  have RW := (RD.plus (.inr rfl)).wipe h2
  refine ⟨fun i m Hc => m = ds.length - i ∧ i ≤ ds.length ∧ ∃ Ac ρc acc dacc ys, Lt C A1 H1 Ac Hc ∧ RS K cm (C.plus D) Ac [] (wipe σ own) Hc ρc ∧ W Ac Hc ∧ Hc D = some (.lst acc) ∧ RpL K cm Ac Hc acc dacc ∧ Ac D ∧ lc2F own own1 h g f1 h1 g1 el (ds.drop i) ρc = some (ys, ρ2) ∧ dacc ++ ys = all,
    ⟨ds.length, by simp, Nat.zero_le _, _, ρw, [], [], all, lD, RW, hJ.stay _ _ _ _ w1 lD.l, upd_same, .nil, .inr rfl, h3, rfl⟩, ?_⟩
  rintro i m Hc ⟨rfl, hi, Ac, ρc, acc, dacc, ys, lc, Rc, wc, hc, rc, hAc, qc, hall⟩
  by_cases hlt : i < ds.length
  · rw [drop_cons_of hlt] at qc
    simp only [lc2F, Option.bind_eq_some_iff] at qc
    obtain ⟨ρ3, q3, ⟨b, ρ4⟩, q4, q5⟩ := qc
    refine .inr ⟨hJ.go Ac Hc i wc hlt, fun H' => i + 1 ≤ ds.length ∧ ∃ Ac ρc acc dacc ys, Lt C A1 H1 Ac H' ∧ RS K cm (C.plus D) Ac [] (wipe σ own) H' ρc ∧ W Ac H' ∧ H' D = some (.lst acc) ∧ RpL K cm Ac H' acc dacc ∧ Ac D ∧ lc2F own own1 h g f1 h1 g1 el (ds.drop (i + 1)) ρc = some (ys, ρ2) ∧ dacc ++ ys = all,
      fun H' h' => ⟨ds.length - (i + 1), by omega, rfl, h'⟩, fun x H3 hy => ?_⟩
    obtain ⟨g3, r3⟩ := hJ.yld Ac Hc i x H3 ds[i] wc Rc.dom (List.getElem?_eq_getElem hlt) hy
    have R3 := Rc.grow g3
    have l3 : Lt (C.plus D) Ac Hc Ac H3 := .same g3
    refine ⟨C.plus D, Ac, ρc, ds[i], ρ3, R3, r3, q3, fun σ2 H4 A4 l4 R4 el2 fe2 => ?_⟩
    have hw2 : wipe σ2 own = wipe σ own := by
      rw [← wipe_wipe σ own]
      exact wipe_same el2 fun j hj => fe2 j fun z => hj (hsub j z)
    refine ⟨hw2, C.plus D, A4, ρ3, b, ρ4, R4, q4, fun H5 A5 l5 R5 => ?_⟩
    have l35 := (l3.trans l4).trans l5
    cases b with
    | false =>
      simp only [Bool.false_eq_true, if_false, Option.bind_eq_some_iff] at q5
      obtain ⟨ρ5, q6, q7⟩ := q5
      have R6 := R5.wipe q6
      rw [hw2] at R6
      exact iteF ⟨hlt, A5, ρ5, acc, dacc, ys, lc.trans l35.of_plus, R6, hJ.stay _ _ _ _ wc l35.l, l35.o D _ (.inr rfl) hc pl_lst.1, rc.later l35.l, R5.out D (.inr rfl), q7, hall⟩
    | true =>
      simp only [if_true, Option.bind_eq_some_iff, Option.map_eq_some_iff] at q5
      obtain ⟨⟨ds1, ρ5⟩, q6, ρ6, q7, ⟨ys1, ρ7⟩, q8, ρ8, q9, ⟨ys2, ρ9⟩, q10, q11⟩ := q5
      cases q11
      refine iteT ⟨C.plus D, A5, ρ4, ds1, ρ5, R5, q6, fun J1 H6 A6 W6 l6 R6 hJ1 w6 => ?_⟩
      have l36 := l35.trans l6
      have R6w := R6.wipe q7
      refine ⟨fun j m1 Hi => m1 = ds1.length - j ∧ j ≤ ds1.length ∧ ∃ Ai ρi acci dacci zs, Lt C A1 H1 Ai Hi ∧ Later Ac Hc Ai Hi ∧ RS K cm (C.plus D) Ai [] (wipe σ2 own1) Hi ρi ∧ W6 Ai Hi ∧ Hi D = some (.lst acci) ∧ RpL K cm Ai Hi acci dacci ∧ Ai D ∧ lcF own1 h1 g1 el (ds1.drop j) ρi = some (zs, ρ7) ∧ dacci ++ zs = dacc ++ ys1,
        ⟨ds1.length, by simp, Nat.zero_le _, A6, ρ6, acc, dacc, ys1, lc.trans l36.of_plus, l36.l, R6w, w6, l36.o D _ (.inr rfl) hc pl_lst.1, rc.later l36.l, R6.out D (.inr rfl), q8, rfl⟩, ?_⟩
      rintro j m1 Hi ⟨rfl, hj, Ai, ρi, acci, dacci, zs, li, lti, Ri, wi', hDi, rci, hAi, qi, halli⟩
      by_cases hlt1 : j < ds1.length
      · rw [drop_cons_of hlt1] at qi
        simp only [lcF, Option.bind_eq_some_iff] at qi
        obtain ⟨ρa, qa, ⟨b1, ρb⟩, qb, qc'⟩ := qi
        refine .inr ⟨hJ1.go Ai Hi j wi' hlt1, fun Hn => j + 1 ≤ ds1.length ∧ ∃ Ai ρi acci dacci zs, Lt C A1 H1 Ai Hn ∧ Later Ac Hc Ai Hn ∧ RS K cm (C.plus D) Ai [] (wipe σ2 own1) Hn ρi ∧ W6 Ai Hn ∧ Hn D = some (.lst acci) ∧ RpL K cm Ai Hn acci dacci ∧ Ai D ∧ lcF own1 h1 g1 el (ds1.drop (j + 1)) ρi = some (zs, ρ7) ∧ dacci ++ zs = dacc ++ ys1,
          fun Hn hn => ⟨ds1.length - (j + 1), by omega, rfl, hn⟩, fun x1 Hy hy1 => ?_⟩
        obtain ⟨gy, ry1⟩ := hJ1.yld Ai Hi j x1 Hy ds1[j] wi' Ri.dom (List.getElem?_eq_getElem hlt1) hy1
        have Ry := Ri.grow gy
        have ly : Lt (C.plus D) Ai Hi Ai Hy := .same gy
        refine ⟨C.plus D, Ai, ρi, ds1[j], ρa, Ry, ry1, qa, fun σ3 Ha Aa la Ra ela fea => ?_⟩
        have hw3 : wipe σ3 own1 = wipe σ2 own1 := by
          rw [← wipe_wipe σ2 own1]
          exact wipe_same ela fun q hq => fea q fun z => hq (hsub1 q z)
        refine ⟨hw3, C.plus D, Aa, ρa, b1, ρb, Ra, qb, fun Hb Ab lb Rb => ?_⟩
        have lyb := (ly.trans la).trans lb
        cases b1 with
        | false =>
          simp only [Bool.false_eq_true, if_false, Option.bind_eq_some_iff] at qc'
          obtain ⟨ρe, qe, qf⟩ := qc'
          have Re := Rb.wipe qe
          rw [hw3] at Re
          exact iteF ⟨hlt1, Ab, ρe, acci, dacci, zs, li.trans lyb.of_plus, lti.trans lyb.l, Re, hJ1.stay _ _ _ _ wi' lyb.l, lyb.o D _ (.inr rfl) hDi pl_lst.1, rci.later lyb.l, Rb.out D (.inr rfl), qf, halli⟩
        | true =>
          simp only [if_true, Option.bind_eq_some_iff, Option.map_eq_some_iff] at qc'
          obtain ⟨⟨rv, ρd⟩, qd, yv, qe, ρf, qf, ⟨zs', ρg⟩, qg, qh⟩ := qc'
          cases qh
          refine iteT ⟨C.plus D, Ab, ρb, rv, ρd, Rb, qd, fun v Hd Ad ld Rd' wd => ?_⟩
          have lyd := lyb.trans ld
          have hDd := lyd.o D _ (.inr rfl) hDi pl_lst.1
          have rv' := pu_ok Rd' wd qe
          have hAd := Rd'.out D (.inr rfl)
          obtain ⟨lu, Ru⟩ := Rd'.updOut (o := .lst (acci ++ [v])) hAd (.inr rfl) hH0 hDd pl_lst
          have Ruw := Ru.wipe qf
          rw [hw3] at Ruw
          have lt : Lt C A1 H1 Ad (upd Hd D (.lst (acci ++ [v]))) := (li.trans lyd.of_plus).trans ⟨lu, fun a o z e _ => by rw [upd_ne (fun w => hA0 (by rw [← w]; exact z))]; exact e⟩
          refine ⟨acci, hDd, big_lt ?_, hlt1, Ad, ρf, acci ++ [v], dacci ++ [yv], zs', lt, (lti.trans lyd.l).trans lu, Ruw, hJ1.stay _ _ _ _ (hJ1.stay _ _ _ _ wi' lyd.l) lu, upd_same, ((rci.later lyd.l).later lu).app (.one (rv'.later lu)), hAd, qg, by rw [List.append_assoc]; exact halli⟩
          have e1 := rci.length
          have e2 := congrArg List.length halli
          have e3 := congrArg List.length hall
          simp only [List.length_append, List.length_cons] at e2 e3
          omega
      · rw [List.drop_of_length_le (by omega)] at qi
        cases qi
        refine .inl ⟨hJ1.stop Ai Hi j wi' (by omega), hlt, Ai, ρ8, acci, dacci, ys2, li, ?_, hJ.stay _ _ _ _ wc lti, hDi, rci, hAi, q10, ?_⟩
        · have Rz := Ri.wipe q9
          rw [wipe_sub hv, hw2] at Rz
          exact Rz
        · rw [List.append_nil] at halli
          rw [halli, List.append_assoc]; exact hall
  · rw [List.drop_of_length_le (by omega)] at qc
    cases qc
    refine .inl ⟨hJ.stop Ac Hc i wc (by omega), ?_⟩
    rw [List.append_nil] at hall
    subst hall
    refine k _ Hc Ac [D] (l1.trans lc) (RS.back R1 h2 lc (Rc.minus hH0)) ⟨D, acc, rfl, rfl, hc, rc⟩ (by simp) fun a m => ?_
    obtain rfl : a = D := by simpa using m
    exact ⟨hH0, hAc, hA0⟩
theorem fn_lc2 {own : List (Str × Nat)} {own1 : List Nat} {scope : Scope} {is is1 : List Nat} {f f1 : Im} {h h1 : D → Rho → Option Rho} {g g1 : Bm} {el : Em} (hc : X.calm = true) (hN : X.N.Nodup) (hi : FI X cm tg iter f) (ok : BlkOk X.N X.env.scope scope own) (hv : ∀ i ∈ own1, i ∈ own.map (·.2))
    (hg : ∀ (s : Shared) (H : Hp) (C : Addr) (cl : List (Str × Addr)) (fp : List Addr), FG (X.blk s H scope (compEnvC scope cl C X.env) fp) cm tg is h) (ht : ∀ (s : Shared) (H : Hp) (C : Addr) (cl : List (Str × Addr)) (fp : List Addr), FTs (X.blk s H scope (compEnvC scope cl C X.env) fp) cm ifs g)
    (hi1 : ∀ (s : Shared) (H : Hp) (C : Addr) (cl : List (Str × Addr)) (fp : List Addr), FI (X.blk s H scope (compEnvC scope cl C X.env) fp) cm tg1 iter1 f1)
    (hg1 : ∀ (s : Shared) (H : Hp) (C : Addr) (cl : List (Str × Addr)) (fp : List Addr), FG (X.blk s H scope (compEnvC scope cl C X.env) fp) cm tg1 is1 h1) (ht1 : ∀ (s : Shared) (H : Hp) (C : Addr) (cl : List (Str × Addr)) (fp : List Addr), FTs (X.blk s H scope (compEnvC scope cl C X.env) fp) cm ifs1 g1)
    (he : ∀ (s : Shared) (H : Hp) (C : Addr) (cl : List (Str × Addr)) (fp : List Addr), FE (X.blk s H scope (compEnvC scope cl C X.env) fp) cm elt el) (hsub : ∀ i ∈ is, i ∈ own.map (·.2)) (hsub1 : ∀ i ∈ is1, i ∈ own1) (hs : ∀ x, foldedSetIterable iter X.env x = pure x := by intro _; rfl) (hs1 : ∀ env x, foldedSetIterable iter1 env x = pure x := by intro _ _; rfl) :
    FN X cm (.ListComp elt [⟨tg, iter, ifs, 0⟩, ⟨tg1, iter1, ifs1, 0⟩] scope pos) (nLc2 (own.map (·.2)) own1 f h g f1 h1 g1 el) :=
  (pe_lc2 hc hN hi ok hv hg ht hi1 hg1 ht1 he hs hs1).imp fun σ H Q hh => by
    obtain ⟨C, A, ρ, t, ρ', R, q, k⟩ := hh
    unfold nLc2 at q
    simp only [Option.bind_eq_some_iff] at q
    obtain ⟨⟨ds, ρ1⟩, h1, ρw, h2, ⟨all, ρ2⟩, h3, h4⟩ := q
    split at h4
    rotate_left
    · cases h4
    rename_i hbig
    cases h4
    exact tLc2_core hv hsub hsub1 (fun R' hR => ⟨C, A, ρ, ds, ρ1, R, h1, hR⟩) hbig h2 h3 k
end
end G

/-! Ly30: enumerate, zip over texts. -/
namespace G
open PySem PySem.Spec PyProof.Rows L2

/-- n turns, each a new tuple -/
def Itw (n : Nat) (item : Nat → List V) : It :=
  ⟨fun i _ => i < n, fun i H v H' => ∃ T, v = .ref T ∧ H T = none ∧ H' = upd H T (.tup (item i)), fun i _ => n ≤ i⟩
theorem turn_wt {P : Program} {w : World} {K : PySem.W.Frag} {elts : List Expr} {kk : Nat} {tpos : Pos} {it : Addr} {fp wr : List Addr} {n : Nat} {Pt : Nat → Array Value → Prop} {St : Nat → Heap → Prop} {Mid : Nat → Addr → Heap → Prop} {item : Nat → List V}
    (W : ∀ A : Around, A.handled = none → WalksT P w A it fp wr n Pt St Mid) (hm : it ∈ fp) (live : ∀ i h, St i h → ∀ b ∈ fp, ∃ o, h.get? b = some o ∧ ∀ v, o.data ≠ .cell v)
    (hPt : ∀ i vals, Pt i vals → Vals (item i) vals.toList ∧ (item i).length ≤ sizeLine)
    (self : ∀ (A : Around) (i : Nat) (s : Shared) (Q : Value → Shared → Prop) (E : Value → Shared → Prop), St i s.heap → Q (.ref it) s → wpAny (model P w) A (pyIter (.ref it)) Q E s) : Turn P w K (.Tuple elts kk tpos) (Itw n item) fp it (fun i h => i ≤ n ∧ St i h) where
  mem := hm
  obj := fun i h st => live i h st.2
  keep := fun i h h' st k => by
    exact ⟨st.1, (W {} rfl).frame i h h' st.2 k⟩
  item := by
    intro X hP hw hK hc i pins s σ H E I hf st hg
    subst hP hw hK
    have Wx := W X.A (I.ok.hd hc)
    refine Wx.item i s _ E hg st.2 fun T vals h' tk hp hT hTup hMid hk => ⟨_, rfl, Wx.go elts kk tpos i T { s with heap := h', toks := tk } _ E hMid fun h'' st'' hk'' => ?_⟩
    obtain ⟨rv, hz⟩ := hPt i vals hp
    obtain ⟨o, ho, hcl, m, hd⟩ := hTup
    have hT2 : h''.get? T = some o := hk'' T o (Wx.apart i T h' hMid) ho
    have new : ObjOk X.prog X.w (upd H T (.tup (item i))) h'' T (.tup (item i)) := ⟨hz, vals.toList, rv, ⟨o, hT2, hcl, m, by rw [hd]⟩⟩
    have keepAll : ∀ b ob, b ∉ fp → s.heap.get? b = some ob → h''.get? b = some ob := fun b ob hb q => hk'' b ob (fun z => hb (Wx.sub b z)) (hk b ob (fun z => hb (Wx.sub b z)) q)
    have I1 : Inv X pins σ (upd H T (.tup (item i))) { s with heap := h'', toks := tk } := I.turnedNew (ch := fp) keepAll hf hT new
    refine ⟨.ref T, _, I1, rfl, ⟨T, rfl, I.hok.fresh hT, rfl⟩, ⟨hg, st''⟩, fun b hb => ?_⟩
    obtain ⟨ob, hob, _⟩ := live i s.heap st.2 b hb
    rw [upd_ne (Nat.ne_of_lt (Nat.lt_of_lt_of_le (Heap.lt_size hob) hT))]
    exact (hf b hb).1
  done := by
    intro X hP hw hK hc i pins s σ H E I hf st hg
    subst hP hw hK
    have Wx := W X.A (I.ok.hd hc)
    have e : i = n := Nat.le_antisymm st.1 hg
    subst e
    exact Wx.done s _ E st.2 fun h' tk hk => ⟨rfl, I.turnedL (ch := fp) (fun b o hb q => hk b o (fun z => hb (Wx.sub b z)) q) hf⟩
  self := fun A i s Q E st h => self A i s Q E st.2 h
/-- a sign of a text, as a value -/
def sgV (x : List Nat) (i : Nat) : V := .str (S [x.getD i 0])
theorem sg_of {x : List Nat} {i c : Nat} {v : Value} {u : Tok} (h : (S x).cps[i]? = some c) (e : v = .str ⟨#[c]⟩ u) : RelV (sgV x i) v := by
  have h2 : x[i]? = some c := by simpa [S] using h
  unfold sgV
  rw [List.getD_eq_getElem?_getD, h2, e]
  exact ⟨u, rfl⟩
theorem str_live {h : Heap} {it : Addr} {T : String} {x : Str} {t : Tok} {i : Nat} (st : h.IsStrIter it T x t i) : ∃ o, h.get? it = some o ∧ ∀ v, o.data ≠ .cell v := by
  obtain ⟨o, ho, hc, hd⟩ := st
  exact ⟨o, ho, fun v z => by rw [hd] at z; cases z⟩
section
variable {X : Cx} {cm : Cm} {pos : Pos} {e e2 : Expr}
def iEnT (ta : TA) : TI := fun σ H R => ta σ H fun vs H1 => ∃ x : List Nat, vs = [.str (S x)] ∧ R (Itw x.length fun i => [.int (i : Nat), sgV x i]) H1
theorem pi_enT {ta : TA} {p tpos : Pos} {elts : List Expr} {kk : Nat} (hg : Gl X "enumerate") (hm : X.mg "enumerate" = none) (ha : PA X [e] ta) (hs : starEach [e] X.env = [(false, eval e X.env)] := by rfl) :
    PI X (.Tuple elts kk tpos) (.Call (.Name "enumerate" p) [e] [] pos) (iEnT ta) := by
  refine ⟨fun pins s σ H R I h => ?_⟩
  refine Call_ (ld_blt I hg hm boot_enumerate (PyProof.Rows.callWith_type1 (thn (ha.run pos pins s σ H _ I h) fun us s1 ⟨vs, H1, I1, r1, q1⟩ => ?_) hs rfl))
  obtain ⟨x, rfl, q⟩ := q1
  cases r1 with
  | cons r rr =>
    cases rr
    obtain ⟨t, rfl⟩ := r
    refine call_enumerate_str fun h' he hit hsz hk => wpAny_pyIter_enum he ?_
    have I2 : Inv X pins σ H1 { s1 with heap := h' } := I1.kept (t' := s1.toks) hk
    refine ⟨s1.heap.objs.size + 1, [s1.heap.objs.size + 1, s1.heap.objs.size], _, _, H1, rfl, I2,
      turn_wt (item := fun i => [.int (i : Nat), sgV x i]) (fun A hA => WalksT.enumFrom 0 (Draws.text (A := A.in1) hA s1.heap.objs.size (S x) t) (s1.heap.objs.size + 1) (Nat.succ_ne_self _) (by simp) (by simp)) (by simp) (fun i h st b hb => ?_) (fun i vals hp => ?_) (fun A i s Q E st h => ?_), ⟨Nat.zero_le _, ⟨.none, he⟩, hit⟩, fun b hb => ?_, ?_⟩
    · obtain ⟨⟨old, he⟩, st2⟩ := st
      have e' : b = s1.heap.objs.size + 1 ∨ b = s1.heap.objs.size := by simpa using hb
      rcases e' with z | z
      · rw [z]; exact ⟨_, he, fun v q => nomatch q⟩
      · rw [z]; exact str_live st2
    · obtain ⟨t2, y, ⟨c, u, hc, ey⟩, rfl⟩ := hp
      refine ⟨.cons ⟨t2, ?_⟩ (.cons (sg_of hc ey) .nil), by show 2 ≤ sizeLine; decide⟩
      rw [Int.zero_add]
    · obtain ⟨⟨old, he⟩, st2⟩ := st
      exact wpAny_pyIter_enum he h
    · have hle : s1.heap.objs.size ≤ b := by
        have e' : b = s1.heap.objs.size + 1 ∨ b = s1.heap.objs.size := by simpa using hb
        rcases e' with z | z
        · rw [z]; exact Nat.le_add_right _ _
        · rw [z]; exact Nat.le_refl _
      exact I1.fpOk hle (I1.hok.fresh hle)
    · have ez : (S x).cps.size = x.length := by simp [S]
      rw [ez]; exact q
def iZiT (ta : TA) : TI := fun σ H R => ta σ H fun vs H1 => ∃ x y : List Nat, vs = [.str (S x), .str (S y)] ∧ R (Itw (min x.length y.length) fun i => [sgV x i, sgV y i]) H1
theorem pi_ziT {ta : TA} {p tpos : Pos} {elts : List Expr} {kk : Nat} (hg : Gl X "zip") (hm : X.mg "zip" = none) (ha : PA X [e, e2] ta)
    (hs : starEach [e, e2] X.env = (false, eval e X.env) :: starEach [e2] X.env := by rfl) (hpl : (backTo pos (starEach [e2] X.env)).any (·.1) = false := by rfl) :
    PI X (.Tuple elts kk tpos) (.Call (.Name "zip" p) [e, e2] [] pos) (iZiT ta) := by
  refine ⟨fun pins s σ H R I h => ?_⟩
  refine Call_ (ld_blt I hg hm PyProof.Rows.boot_zip (PyProof.Rows.callWith_type1 (thn (ha.run pos pins s σ H _ I h) fun us s1 ⟨vs, H1, I1, r1, q1⟩ => ?_) hs hpl))
  obtain ⟨x, y, rfl, q⟩ := q1
  cases r1 with
  | cons r rr =>
    cases rr with
    | cons r' rr =>
      cases rr
      obtain ⟨t, rfl⟩ := r
      obtain ⟨t', rfl⟩ := r'
      refine zip_begins2 (begins_text (S x) t) (begins_text (S y) t') trivial trivial fun h' hz hTI hTO h1 h2 hsz hk => wpAny_pyIter_zip hz ?_
      have I2 : Inv X pins σ H1 { s1 with heap := h' } := I1.kept (t' := s1.toks) hk
      have sep : ZipSep2 (s1.heap.objs.size + 4) (s1.heap.objs.size + 2) (s1.heap.objs.size + 3) s1.heap.objs.size (s1.heap.objs.size + 1) [s1.heap.objs.size] [s1.heap.objs.size + 1] := zip_sep2 (fp1 := []) (fp2 := []) (fun b z => nomatch z) (fun b z => nomatch z)
      refine ⟨s1.heap.objs.size + 4, (s1.heap.objs.size + 4) :: (s1.heap.objs.size + 2) :: (s1.heap.objs.size + 3) :: ([s1.heap.objs.size] ++ [s1.heap.objs.size + 1]), _, _, H1, rfl, I2,
        turn_wt (item := fun i => [sgV x i, sgV y i]) (fun A hA => WalksT.zipD2 (A := A) sep (Draws.text (A := A.in1) hA s1.heap.objs.size (S x) t) (Draws.text (A := A.in1) hA (s1.heap.objs.size + 1) (S y) t')) (by simp) (fun i h st b hb => ?_) (fun i vals hp => ?_) (fun A i s Q E st h => ?_), ⟨Nat.zero_le _, hz, hTI, ⟨_, _, hTO⟩, ?_, ?_⟩, fun b hb => ?_, ?_⟩
      · obtain ⟨hz, hTI, ⟨a1, a2, hTO⟩, st1, st2⟩ := st
        have e' : b = s1.heap.objs.size + 4 ∨ b = s1.heap.objs.size + 2 ∨ b = s1.heap.objs.size + 3 ∨ b = s1.heap.objs.size ∨ b = s1.heap.objs.size + 1 := by simpa using hb
        rcases e' with z | z | z | z | z
        · rw [z]; exact ⟨_, hz, fun v q => nomatch q⟩
        · rw [z]; exact ⟨_, hTI, fun v q => nomatch q⟩
        · rw [z]; exact ⟨_, hTO, fun v q => nomatch q⟩
        · rw [z]; exact str_live st1
        · rw [z]; exact str_live st2
      · obtain ⟨y1, y2, ⟨c, u, hc, ey⟩, ⟨c2, u2, hc2, ey2⟩, rfl⟩ := hp
        exact ⟨.cons (sg_of hc ey) (.cons (sg_of hc2 ey2) .nil), by show 2 ≤ sizeLine; decide⟩
      · exact wpAny_pyIter_zip st.1 h
      · exact ⟨_, h1, rfl, rfl⟩
      · exact ⟨_, h2, rfl, rfl⟩
      · have hle : s1.heap.objs.size ≤ b := by
          have e' : b = s1.heap.objs.size + 4 ∨ b = s1.heap.objs.size + 2 ∨ b = s1.heap.objs.size + 3 ∨ b = s1.heap.objs.size ∨ b = s1.heap.objs.size + 1 := by simpa using hb
          rcases e' with z | z | z | z | z
          · rw [z]; exact Nat.le_add_right _ _
          · rw [z]; exact Nat.le_add_right _ _
          · rw [z]; exact Nat.le_add_right _ _
          · rw [z]; exact Nat.le_refl _
          · rw [z]; exact Nat.le_add_right _ _
        exact I1.fpOk hle (I1.hok.fresh hle)
      · have ez : (S x).cps.size = x.length := by simp [S]
        have ez2 : (S y).cps.size = y.length := by simp [S]
        rw [ez, ez2]; exact q
/-! by data -/
def enumT (x : List Nat) : List D := (List.range x.length).map fun i => .tup [.int (i : Nat), .str [x.getD i 0]]
def zipT (x y : List Nat) : List D := (List.range (min x.length y.length)).map fun i => .tup [.str [x.getD i 0], .str [y.getD i 0]]
theorem it_w {K : PySem.W.Frag} {n : Nat} {item : Nat → List V} {di : Nat → List D} (h : ∀ A H i, RpL K cm A H (item i) (di i)) : ItOk K cm (Itw n item) (fun _ _ => True) ((List.range n).map fun i => .tup (di i)) where
  stay := fun _ _ _ _ _ _ => trivial
  go := fun A H i _ h => by
    show i < n
    simpa using h
  yld := fun A H i x H' d _ hdom e hy => by
    obtain ⟨T, rfl, hT, rfl⟩ := hy
    simp only [List.getElem?_map, Option.map_eq_some_iff] at e
    obtain ⟨j, e1, rfl⟩ := e
    have hj : i < n := by
      have := (List.getElem?_eq_some_iff.mp e1).1
      simpa using this
    rw [List.getElem?_range hj] at e1
    cases e1
    exact ⟨same_new hT, new_tup hdom hT (h A H i)⟩
  stop := fun A H i _ h => by
    show n ≤ i
    simpa using h
def iEnS (g : Am) : Im := fun ρ => (g ρ).bind fun p => (pus p.2 p.1).bind fun es => match es with
  | [.str x] => some (enumT x, p.2)
  | _ => none
def iZi2 (g : Am) : Im := fun ρ => (g ρ).bind fun p => (pus p.2 p.1).bind fun es => match es with
  | [.str x, .str y] => some (zipT x y, p.2)
  | _ => none
theorem fi_enS {g : Am} {p tpos : Pos} {elts : List Expr} {kk : Nat} (hg : Gl X "enumerate") (hm : X.mg "enumerate" = none) (ha : FA X cm [e] g) (hs : starEach [e] X.env = [(false, eval e X.env)] := by rfl) : FI X cm (.Tuple elts kk tpos) (.Call (.Name "enumerate" p) [e] [] pos) (iEnS g) :=
  (pi_enT hg hm ha hs).imp fun σ H R ⟨C, A, ρ, ds, ρ', RS0, q, k⟩ => by
    unfold iEnS at q
    simp only [Option.bind_eq_some_iff] at q
    obtain ⟨⟨rs, ρ1⟩, h1, es, h2, h3⟩ := q
    refine ⟨C, A, ρ, rs, ρ1, RS0, h1, fun vs H1 A1 l1 R1 w1 => ?_⟩
    have r := pus_ok R1 w1 h2
    dsimp only at h3
    split at h3
    · cases h3
      cases r with
      | cons r1 r => cases r with
        | nil =>
          cases r1
          exact ⟨_, rfl, k _ H1 A1 _ l1 R1 (it_w fun A H i => .cons (.int _) (.one (.str _))) trivial⟩
    · cases h3
theorem fi_zi2 {g : Am} {p tpos : Pos} {elts : List Expr} {kk : Nat} (hg : Gl X "zip") (hm : X.mg "zip" = none) (ha : FA X cm [e, e2] g)
    (hs : starEach [e, e2] X.env = (false, eval e X.env) :: starEach [e2] X.env := by rfl) (hpl : (backTo pos (starEach [e2] X.env)).any (·.1) = false := by rfl) : FI X cm (.Tuple elts kk tpos) (.Call (.Name "zip" p) [e, e2] [] pos) (iZi2 g) :=
  (pi_ziT hg hm ha hs hpl).imp fun σ H R ⟨C, A, ρ, ds, ρ', RS0, q, k⟩ => by
    unfold iZi2 at q
    simp only [Option.bind_eq_some_iff] at q
    obtain ⟨⟨rs, ρ1⟩, h1, es, h2, h3⟩ := q
    refine ⟨C, A, ρ, rs, ρ1, RS0, h1, fun vs H1 A1 l1 R1 w1 => ?_⟩
    have r := pus_ok R1 w1 h2
    dsimp only at h3
    split at h3
    · cases h3
      cases r with
      | cons r1 r => cases r with
        | cons r2 r => cases r with
          | nil =>
            cases r1; cases r2
            exact ⟨_, _, rfl, k _ H1 A1 _ l1 R1 (it_w fun A H i => .cons (.str _) (.one (.str _))) trivial⟩
    · cases h3
end
end G

set_option maxHeartbeats 4000000
/-! Ly31: list(text), sorted(text), sum of a tuple. -/
namespace G
open PySem PySem.Spec PyProof.Rows L2

def sgL (x : List Nat) : List Str := x.map sg
theorem signs_of {x : Str} {vs : List Value} (h : ItemsOf (SignAt x) vs.toArray x.cps.size) : StrsAre vs (sgL x.cps.toList) := by
  have all : ∀ (vs : List Value) (cs : List Nat), vs.length = cs.length → (∀ (j : Nat) (v : Value), vs[j]? = some v → ∃ c u, cs[j]? = some c ∧ v = .str ⟨#[c]⟩ u) → StrsAre vs (sgL cs) := by
    intro vs
    induction vs with
    | nil =>
      intro cs hl _
      cases cs with
      | nil => exact .nil
      | cons => cases hl
    | cons v vs ih =>
      intro cs hl hv
      cases cs with
      | nil => cases hl
      | cons c cs =>
        obtain ⟨c', u, e1, e2⟩ := hv 0 v rfl
        cases e1
        subst e2
        exact .cons _ u (ih cs (by simpa using hl) fun j w e => by simpa using hv (j + 1) w (by simpa using e))
  refine all vs x.cps.toList (by have := h.1; simpa using this) fun j v e => ?_
  obtain ⟨c, u, e1, e2⟩ := h.2 j v (by simpa using e)
  exact ⟨c, u, by rw [Array.getElem?_toList]; exact e1, e2⟩
section
variable {P : Program} {w : World} {A : Around} {E : Value → Shared → Prop} {s : Shared}
theorem sorted_txt {x : Str} {t : Tok} {Q : Value → Shared → Prop} (hh : A.handled = none) (h64 : x.cps.size < 64)
    (hQ : ∀ (s1 s' : Shared) (out : List Value) (c : Nat) (ys : List Str), (∀ b o, s.heap.get? b = some o → s1.heap.get? b = some o) → s1.gens = s.gens → s1.os = s.os → (∀ b o, s1.heap.get? b = some o → s'.heap.get? b = some o) → s'.gens = s1.gens → s'.os = s1.os →
      s'.heap.get? s1.heap.objs.size = some (seqObj "list" out.toArray c) → StrsAre out ys → ys.Perm (sgL x.cps.toList) → sortedS ys = true → Q (.ref s1.heap.objs.size) s') :
    wpAny (model P w) A (call (.builtin "sorted") [.str x t]) Q E s := by
  refine Calls.call_function_entry kind_sorted plain_sorted entry_sorted (args_sorted1 _) ?_
  unfold Builtin.«sorted»
  refine wpAny_bind (m := checkCount "sorted" 1 1 _) (wpAny_pure ?_)
  refine wpAny_bind (wpAny_collect_str (A := A.in1) hh x t (fun s1 acc k1 g1 d1 o1 hacc => ?_) (by rw [sizeLine_eq]; omega))
  generalize hvs : acc.toList = vs
  have hS : StrsAre vs (sgL x.cps.toList) := signs_of (by rw [← hvs]; simpa using hacc)
  have len : vs.length < 64 := by
    have e := hacc.1
    rw [← hvs, Array.length_toList, e]; exact h64
  refine wpAny_bind (wpAny_newList ?_ (by rw [sizeLine_eq]; omega))
  have hoL : (s1.heap.push (seqObj "list" vs.toArray 0)).get? s1.heap.objs.size = some (seqObj "list" vs.toArray 0) := Heap.get?_push_size _ rfl
  refine wpAny_bind (wpAny_holding (wpAny_call_entry slot_list_sort ⟨_, hoL, rfl⟩ entry_list_sort (list_sort_treeK strKind_oneLt hoL hS.keysOf (fun v1 v2 rest e => keyKind_strs (by rw [← e]; exact hS)) len fun st' hp hs => ⟨_, rfl, ?_⟩) (args_list_sort _)))
  obtain ⟨ys, q1, q2, q3⟩ := sorted_out_str hS hp hs
  obtain ⟨c, hc⟩ := sortedHeap_at (vs := vs) (out := (arrOf st').map (·.2)) hoL
  refine wpAny_pure ⟨_, rfl, hQ s1 _ ((arrOf st').map (·.2)).toList c ys k1 g1 o1 (fun b u e => ?_) rfl rfl (by rw [Array.toArray_toList]; exact hc) q1 q2 q3⟩
  have hlt := Heap.lt_size e
  show (sortedHeap (s1.heap.push (seqObj "list" vs.toArray 0)) s1.heap.objs.size vs ((arrOf st').map (·.2))).get? b = some u
  rw [sortedHeap_old (Nat.ne_of_lt hlt) (by rw [size_push']; exact Nat.lt_succ_of_lt hlt)]
  exact Heap.get?_push_of_some _ e
end
section
variable {X : Cx} {K : PySem.W.Frag} {cm : Cm}
theorem S_size (x : List Nat) : (S x).cps.size = x.length := by simp [S]
theorem cr_sortedT (hc : X.calm = true) : CallR X (.builtin "sorted") (fun xs H Q => ∃ x : List Nat, xs = [.str (S x)] ∧ x.length < 64 ∧ ∀ (ys : List Str) p, ys.Perm (sgL x) → sortedS ys = true → H p = none → Q (.ref p) (upd H p (.lst (ys.map V.str)))) := by
  intro pins s σ H xs us Q I r h
  obtain ⟨x, rfl, hx, q⟩ := h
  obtain ⟨u, rfl, t, rfl⟩ := vals1 r
  refine sorted_txt (I.ok.hd hc) (by rw [S_size]; exact hx) fun s1 s' out c ys k1 g1 o1 k2 g2 o2 hp hS pm so => ?_
  have pm' : ys.Perm (sgL x) := by rw [S_list] at pm; exact pm
  have I1 : Inv X pins σ H { s1 with os := s.os, gens := s.gens } := by
    refine I.call (ch := []) (Un.kept k1) (I.hok.kept k1) I.bare fun _ m => nomatch m
  have e1 : ({ s1 with os := s.os, gens := s.gens } : Shared) = s1 := by
    cases s1; cases s; cases g1; cases o1; rfl
  rw [e1] at I1
  have hn : H s1.heap.objs.size = none := I1.hok.fresh (Nat.le_refl _)
  have hlen : (ys.map V.str).length ≤ sizeLine := by
    rw [List.length_map, pm'.length_eq, sizeLine_eq]
    unfold sgL
    rw [List.length_map]; omega
  have J : Inv X pins σ (upd H s1.heap.objs.size (.lst (ys.map V.str))) { s' with os := s1.os, gens := s1.gens } := by
    refine I1.call (ch := []) (Un.laid k2 (Nat.le_refl _) hn) (I1.hok.laid k2 (Nat.le_refl _) ⟨hlen, out, c, vals_of_strs hS, hp⟩) I1.bare fun _ m => nomatch m
  have e2 : ({ s' with os := s1.os, gens := s1.gens } : Shared) = s' := by
    cases s'; cases s1; cases g2; cases o2; rfl
  rw [e2] at J
  exact ⟨.ref _, _, J, rfl, q ys _ pm' so hn⟩
def cSortX : List D → Option (List D)
  | [.str x] => if x.length < 64 then some ((tsort (x.map fun c => [c])).map .str) else none
  | ds => cSortT ds
theorem rc_sortX : RCN K cm (fun xs H Q => rSortedS K xs H Q ∨ ∃ x : List Nat, xs = [.str (S x)] ∧ x.length < 64 ∧ ∀ (ys : List Str) p, ys.Perm (sgL x) → sortedS ys = true → H p = none → Q (.ref p) (upd H p (.lst (ys.map V.str)))) cSortX := by
  intro A H vs ds es Q hd hl hr e k
  unfold cSortX at e
  split at e
  · rename_i x
    split at e
    · rename_i hz
      cases e
      obtain ⟨v, rfl, r⟩ := hr.one
      cases r.str
      refine .inr ⟨x, rfl, hz, fun ys p pm so hp => ?_⟩
      have e0 : sgL x = (x.map fun c => [c]).map S := by
        rw [List.map_map]; rfl
      rw [sorted_texts (x.map fun c => [c]) ys (by rw [← e0]; exact pm) so]
      exact k p _ hp (rpl_str _)
    · cases e
  · exact .inl (rc_sortT A H vs ds es Q hd hl hr e k)
theorem call_listT (hc : X.calm = true) : CallR X (.type "list") (fun xs H Q => ∃ x : List Nat, xs = [.str (S x)] ∧ x.length ≤ big ∧ ∀ p, H p = none → Q (.ref p) (upd H p (.lst (x.map fun c => V.str (S [c]))))) := by
  intro pins s σ H xs us Q I r h
  obtain ⟨x, rfl, hx, q⟩ := h
  obtain ⟨u, rfl, t, rfl⟩ := vals1 r
  have hz : x.length ≤ sizeLine := big_le hx
  refine call_list_str (I.ok.hd hc) (S x) t (fun h' tk acc c' hk ho hacc => ?_) (by rw [S_size]; exact hz)
  have hS : StrsAre acc.toList (sgL x) := by
    have q := signs_of (vs := acc.toList) (by simpa using hacc)
    rw [S_list] at q; exact q
  have e0 : (x.map fun c => V.str (S [c])) = (sgL x).map V.str := by
    unfold sgL
    rw [List.map_map]; rfl
  refine ⟨.ref s.heap.objs.size, _, I.laid (t' := tk) hk (Nat.le_refl _) (show ObjOk X.prog X.w _ h' _ (.lst (x.map fun c => V.str (S [c]))) from ⟨by rw [List.length_map]; exact hz, acc.toList, c', by rw [e0]; exact vals_of_strs hS, by simpa using ho⟩), rfl, q _ (I.hok.fresh (Nat.le_refl _))⟩
def cListX : List D → Option (List D)
  | [.str x] => if x.length ≤ big then some (x.map fun c => .str [c]) else none
  | ds => cList ds
theorem rc_listX : RCN K cm (fun xs H Q => (∃ p ys, xs = [.ref p] ∧ (SqL K H p ys ∨ SqT K H p ys) ∧ ∀ l, H l = none → Q (.ref l) (upd H l (.lst ys))) ∨ ∃ x : List Nat, xs = [.str (S x)] ∧ x.length ≤ big ∧ ∀ p, H p = none → Q (.ref p) (upd H p (.lst (x.map fun c => V.str (S [c]))))) cListX := by
  intro A H vs ds es Q hd hl hr e k
  unfold cListX at e
  split at e
  · rename_i x
    split at e
    · rename_i hz
      cases e
      obtain ⟨v, rfl, r⟩ := hr.one
      cases r.str
      refine .inr ⟨x, rfl, hz, fun p hp => k p _ hp ?_⟩
      have e0 : (x.map fun c => V.str (S [c])) = ((x.map fun c => [c]).map S).map V.str := by simp [List.map_map]
      have e1 : (x.map fun c => D.str [c]) = (x.map fun c => [c]).map D.str := by simp [List.map_map]
      rw [e0, e1]
      exact rpl_str _
    · cases e
  · exact .inl (rc_list A H vs ds es Q hd hl hr e k)
/-! ### sum of a tuple of ints -/
theorem preS (ns : List Int) : ∀ j, preSum (fun i => ns.getD i 0) j = (ns.take j).sum
  | 0 => by simp [preSum]
  | j + 1 => by
    rw [preSum, preS ns j, List.take_add_one]
    cases h : ns[j]? with
    | none => simp [List.getD_eq_getElem?_getD, h]
    | some v => simp [List.getD_eq_getElem?_getD, h, List.sum_append]
theorem cr_sumT (hc : X.calm = true) : CallR X (.builtin "sum") (fun xs H Q => ∃ (a : Addr) (ns : List Int), xs = [V.ref a] ∧ SqT X.K H a (ns.map V.int) ∧ Q (.int ns.sum) H) := by
  intro pins s σ H vs us Q I r h
  obtain ⟨a, ns, rfl, hs, q⟩ := h
  obtain ⟨its, rv, hl, hz⟩ := I.tuple hs
  obtain ⟨u, rfl, rx⟩ := vals1 r
  cases rx
  have hT : s.heap.IsTuple a its.toArray := hl
  obtain ⟨oa, ea, _⟩ := id hl
  have hlt : a < s.heap.objs.size := Heap.lt_size ea
  refine call_sum_walkG (wpAny_pyIter_tuple (show s.heap.IsTuple a its.toArray from hl) ⟨s.heap.objs.size, [s.heap.objs.size, a], [s.heap.objs.size], its.toArray.size, _, _, fun i => ns.getD i 0, rfl,
    Walks.tuple (A := X.A.in1) (I.ok.hd hc) s.heap.objs.size a (Nat.ne_of_lt hlt) its.toArray, ⟨⟨_, Heap.get?_push_size _ rfl, rfl, rfl⟩, hT.at fun o e => Heap.get?_push_of_some _ e⟩, fun b hb => ?_, fun i v e => ?_, fun h' tk t' hk => ?_⟩)
  · show b < (s.heap.push _).objs.size
    rw [Heap.size_push]
    have e' : b = s.heap.objs.size ∨ b = a := by simpa using hb
    rcases e' with z | z <;> rw [z]
    · exact Nat.lt_succ_self _
    · exact Nat.lt_succ_of_lt hlt
  · have e' : its[i]? = some v := by simpa using e
    have hlen : i < (ns.map V.int).length := by
      rw [rv.length]; exact (List.getElem?_eq_some_iff.mp e').1
    obtain ⟨u, e1, e2⟩ := rv.get (i := i) (x := .int (ns.getD i 0)) (by
      rw [List.getElem?_map]
      rw [List.length_map] at hlen
      simp [List.getD_eq_getElem?_getD, List.getElem?_eq_getElem hlen])
    rw [e'] at e1; cases e1
    exact e2
  · have hn : its.toArray.size = ns.length := by
      have := rv.length
      rw [List.length_map] at this
      simp [this]
    rw [hn, preS, List.take_of_length_le (Nat.le_refl _)]
    refine ⟨.int _, H, I.kept fun b o e => hk b o (fun m => ?_) (Heap.get?_push_of_some _ e), ⟨_, rfl⟩, q⟩
    have z : b = s.heap.objs.size := by simpa using m
    exact absurd (Heap.lt_size e) (by rw [z]; exact Nat.lt_irrefl _)
def cSumX : List D → Option D
  | [.tup ds] => (intL ds).map fun ns => .int ns.sum
  | ds => cSum ds
theorem rc_sumX : RC K cm (fun xs H Q => rSum K xs H Q ∨ ∃ (a : Addr) (ns : List Int), xs = [V.ref a] ∧ SqT K H a (ns.map V.int) ∧ Q (.int ns.sum) H) cSumX := by
  intro A H vs ds dz Q hd hl hr e k
  unfold cSumX at e
  split at e
  · rw [Option.map_eq_some_iff] at e
    obtain ⟨ns, e1, rfl⟩ := e
    obtain ⟨v, rfl, r⟩ := hr.one
    obtain ⟨a, xs, rfl, hs, rl⟩ := r.tup
    have := rl.intL e1
    subst this
    exact .inr ⟨a, ns, rfl, hs, k _ H (.refl H) (.int _)⟩
  · exact .inl (rc_sum A H vs ds dz Q hd hl hr e k)
end
end G

/-! Ly32: two ways to walk; rules put together. -/
namespace G
open PySem PySem.Spec L2
def iOr (f g : Im) : Im := fun ρ => (f ρ).or (g ρ)
section
variable {X : Cx} {cm : Cm} {tg iter : Expr}
theorem fi_or {f g : Im} (hf : FI X cm tg iter f) (hg : FI X cm tg iter g) : FI X cm tg iter (iOr f g) :=
  (hf.or hg).imp fun σ H R ⟨C, A, ρ, ds, ρ', RS0, q, k⟩ => by
    unfold iOr at q
    cases e : f ρ with
    | none =>
      rw [e] at q
      exact .inr ⟨C, A, ρ, ds, ρ', RS0, q, k⟩
    | some r =>
      rw [e] at q
      cases q
      exact .inl ⟨C, A, ρ, _, _, RS0, e, k⟩
theorem cr_sortedX (hc : X.calm = true) : CallR X (.builtin "sorted") (fun xs H Q => rSortedS X.K xs H Q ∨ ∃ x : List Nat, xs = [.str (S x)] ∧ x.length < 64 ∧ ∀ (ys : List Str) p, ys.Perm (sgL x) → PyProof.Rows.sortedS ys = true → H p = none → Q (.ref p) (upd H p (.lst (ys.map V.str)))) := cr_sortedS.or (cr_sortedT hc)
theorem call_listX (hc : X.calm = true) : CallR X (.type "list") (fun xs H Q => (∃ p ys, xs = [.ref p] ∧ (SqL X.K H p ys ∨ SqT X.K H p ys) ∧ ∀ l, H l = none → Q (.ref l) (upd H l (.lst ys))) ∨ ∃ x : List Nat, xs = [.str (S x)] ∧ x.length ≤ big ∧ ∀ p, H p = none → Q (.ref p) (upd H p (.lst (x.map fun c => V.str (S [c]))))) := call_list_of.or (call_listT hc)
theorem cr_sumX (hc : X.calm = true) : CallR X (.builtin "sum") (fun xs H Q => rSum X.K xs H Q ∨ ∃ (a : Addr) (ns : List Int), xs = [V.ref a] ∧ SqT X.K H a (ns.map V.int) ∧ Q (.int ns.sum) H) := (cr_sum hc).or (cr_sumT hc)
end
end G

/-! Ly33: text.replace(sign, '') as a mirror; its law. -/
namespace G
open PySem PySem.Spec L2 PySem.StrLaws
def cRepl (a c z : D) : Option D := match a, c, z with
  | .str a, .str [c], .str [] => if a.length ≤ 1000 then some (.str (a.filter fun d => decide (d ≠ c))) else none
  | _, _, _ => none
def eRepl (f g h : Em) : Em := fun ρ => (f ρ).bind fun p => (g p.2).bind fun q => (h q.2).bind fun r => (rd r.2 p.1).bind fun a => (rd r.2 q.1).bind fun c => (rd r.2 r.1).bind fun z => (cRepl a c z).map fun y => (.val y, r.2)
theorem join_nil_sg (c : Nat) : ∀ ps : List Str, (∀ p ∈ ps, c ∉ p.cps.toList) → (Str.join ⟨#[]⟩ ps).cps.toList = (Str.join ⟨#[c]⟩ ps).cps.toList.filter fun d => decide (d ≠ c)
  | [], _ => rfl
  | [p], h => by
    show p.cps.toList = p.cps.toList.filter _
    rw [List.filter_eq_self.mpr]
    intro a m
    exact decide_eq_true fun (e : a = c) => h p (by simp) (by rw [← e]; exact m)
  | p :: q :: r, h => by
    have ih := join_nil_sg c (q :: r) fun a m => h a (List.mem_cons_of_mem _ m)
    show (p ++ ⟨#[]⟩ ++ Str.join ⟨#[]⟩ (q :: r)).cps.toList = (p ++ ⟨#[c]⟩ ++ Str.join ⟨#[c]⟩ (q :: r)).cps.toList.filter _
    simp only [Str.cps_append, Array.toList_append, List.filter_append]
    rw [ih]
    have e : p.cps.toList.filter (fun d => decide (d ≠ c)) = p.cps.toList := List.filter_eq_self.mpr fun a m => decide_eq_true fun (e : a = c) => h p (by simp) (by rw [← e]; exact m)
    rw [e]
    simp
theorem repl_nil (a : List Nat) (c : Nat) : Txt.replace (S a) (S [c]) (S []) = S (a.filter fun d => decide (d ≠ c)) := by
  have h := replace_one (S a) ⟨#[]⟩ c
  have e : (Txt.replace (S a) (S [c]) (S [])).cps.toList = a.filter fun d => decide (d ≠ c) := by
    show (Txt.replace (S a) ⟨#[c]⟩ ⟨#[]⟩).cps.toList = _
    rw [h, join_nil_sg c _ (split_free (S a) c), join_split, S_list]
  rw [S_of (Txt.replace (S a) (S [c]) (S [])), e]
/-- a mirror told only at a sewing, a whole number and a third thing -/
def gdS (f : Rho → Option (T × Rho)) : Rho → Option (T × Rho) := fun ss => match ss with
  | [.v (.p (.tup [.str w, .str t])), .v (.p (.int e)), .v (.p d)] => if w.length ≤ 1000 then f [.v (.p (.tup [.str w, .str t])), .v (.p (.int e)), .v (.p d)] else none
  | _ => none
end G

/-! Ly34: a run has one end; so what two derivations tell of it stands together. -/
namespace G
open PySem

theorem runs_one {M : Model} {Γ : Ctx} {p : Pos} {t : Sem Fin} {fs : List Frame} {s s' : Shared} {e : End} (h : Runs M Γ p t fs s e s') : ∀ {e2 : End} {s2 : Shared}, Runs M Γ p t fs s e2 s2 → e = e2 ∧ s' = s2 := by
  induction h with
  | done => intro e2 s2 h2; cases h2; exact ⟨rfl, rfl⟩
  | raise => intro e2 s2 h2; cases h2; exact ⟨rfl, rfl⟩
  | again _ _ ih => intro e2 s2 h2; cases h2; exact ih ‹_›
  | rule _ ih => intro e2 s2 h2; cases h2; exact ih ‹_›
  | «at» _ ih => intro e2 s2 h2; cases h2; exact ih ‹_›
  | load g _ ih =>
    intro e2 s2 h2
    cases h2 with
    | load g2 r2 => rw [g] at g2; cases g2; exact ih r2
  | update _ _ ih => intro e2 s2 h2; cases h2; exact ih ‹_›
  | loadIfAlive _ ih => intro e2 s2 h2; cases h2; exact ih ‹_›
  | point _ ih => intro e2 s2 h2; cases h2; exact ih ‹_›
  | alloc _ ih => intro e2 s2 h2; cases h2; exact ih ‹_›
  | fresh _ ih => intro e2 s2 h2; cases h2; exact ih ‹_›
  | ask _ ih => intro e2 s2 h2; cases h2; exact ih ‹_›
  | choose _ _ ih => intro e2 s2 h2; cases h2; exact ih ‹_›
  | os _ ih => intro e2 s2 h2; cases h2; exact ih ‹_›
  | handled _ ih => intro e2 s2 h2; cases h2; exact ih ‹_›
  | genState g _ ih =>
    intro e2 s2 h2
    cases h2 with
    | genState g2 r2 => rw [g] at g2; cases g2; exact ih r2
  | stack _ ih => intro e2 s2 h2; cases h2; exact ih ‹_›
  | thread _ ih => intro e2 s2 h2; cases h2; exact ih ‹_›
  | newGen _ ih => intro e2 s2 h2; cases h2; exact ih ‹_›
  | call _ _ ih1 ih2 =>
    intro e2 s2 h2
    cases h2 with
    | call a b =>
      obtain ⟨q1, q2⟩ := ih1 a
      cases q1; cases q2
      exact ih2 b
    | callSusp a => obtain ⟨q1, q2⟩ := ih1 a; cases q1
  | callSusp _ ih1 =>
    intro e2 s2 h2
    cases h2 with
    | call a b => obtain ⟨q1, q2⟩ := ih1 a; cases q1
    | callSusp a => obtain ⟨q1, q2⟩ := ih1 a; cases q1; cases q2; exact ⟨rfl, rfl⟩
  | yield => intro e2 s2 h2; cases h2; exact ⟨rfl, rfl⟩
  | resumeFresh g _ _ _ ih1 ih2 =>
    intro e2 s2 h2
    cases h2 with
    | resumeFresh g2 a _ b => rw [g] at g2; cases g2; obtain ⟨q1, q2⟩ := ih1 a; cases q1; cases q2; exact ih2 b
    | resumeSuspended g2 => rw [g] at g2; cases g2
    | resumeJustStarted g2 n => exact absurd rfl n
    | resumeRunning g2 => rw [g] at g2; cases g2
    | resumeFinished g2 => rw [g] at g2; cases g2
  | resumeSuspended g _ _ _ ih1 ih2 =>
    intro e2 s2 h2
    cases h2 with
    | resumeFresh g2 => rw [g] at g2; cases g2
    | resumeSuspended g2 a _ b => rw [g] at g2; cases g2; obtain ⟨q1, q2⟩ := ih1 a; cases q1; cases q2; exact ih2 b
    | resumeJustStarted g2 => rw [g] at g2; cases g2
    | resumeThrowFresh g2 => rw [g] at g2; cases g2
    | resumeRunning g2 => rw [g] at g2; cases g2
    | resumeFinished g2 => rw [g] at g2; cases g2
  | resumeJustStarted g n _ ih =>
    intro e2 s2 h2
    cases h2 with
    | resumeFresh g2 => exact absurd rfl n
    | resumeSuspended g2 => rw [g] at g2; cases g2
    | resumeJustStarted g2 _ b => exact ih b
    | resumeRunning g2 => rw [g] at g2; cases g2
    | resumeFinished g2 => rw [g] at g2; cases g2
  | resumeThrowFresh g _ ih =>
    intro e2 s2 h2
    cases h2 with
    | resumeSuspended g2 => rw [g] at g2; cases g2
    | resumeThrowFresh g2 b => exact ih b
    | resumeRunning g2 => rw [g] at g2; cases g2
    | resumeFinished g2 => rw [g] at g2; cases g2
  | resumeRunning g _ ih =>
    intro e2 s2 h2
    cases h2 with
    | resumeFresh g2 => rw [g] at g2; cases g2
    | resumeSuspended g2 => rw [g] at g2; cases g2
    | resumeJustStarted g2 => rw [g] at g2; cases g2
    | resumeThrowFresh g2 => rw [g] at g2; cases g2
    | resumeRunning g2 b => exact ih b
    | resumeFinished g2 => rw [g] at g2; cases g2
  | resumeFinished g _ ih =>
    intro e2 s2 h2
    cases h2 with
    | resumeFresh g2 => rw [g] at g2; cases g2
    | resumeSuspended g2 => rw [g] at g2; cases g2
    | resumeJustStarted g2 => rw [g] at g2; cases g2
    | resumeThrowFresh g2 => rw [g] at g2; cases g2
    | resumeRunning g2 => rw [g] at g2; cases g2
    | resumeFinished g2 b => exact ih b
  | segRet _ _ ih1 ih2 =>
    intro e2 s2 h2
    cases h2 with
    | segRet a b => obtain ⟨q1, q2⟩ := ih1 a; cases q1; cases q2; exact ih2 b
    | segSuspOut _ a => obtain ⟨q1, q2⟩ := ih1 a; cases q1
    | segSuspGen _ a => obtain ⟨q1, q2⟩ := ih1 a; cases q1
  | segGen _ _ ih1 ih2 =>
    intro e2 s2 h2
    cases h2 with
    | segGen a b => obtain ⟨q1, q2⟩ := ih1 a; cases q1; cases q2; exact ih2 b
    | segSuspOut _ a => obtain ⟨q1, q2⟩ := ih1 a; cases q1
    | segSuspGen _ a => obtain ⟨q1, q2⟩ := ih1 a; cases q1
  | segSuspOut n _ ih1 =>
    intro e2 s2 h2
    cases h2 with
    | segRet a b => obtain ⟨q1, q2⟩ := ih1 a; cases q1
    | segGen a b => obtain ⟨q1, q2⟩ := ih1 a; cases q1
    | segSuspOut _ a => obtain ⟨q1, q2⟩ := ih1 a; cases q1; cases q2; exact ⟨rfl, rfl⟩
    | segSuspGen n2 a => rw [n] at n2; cases n2
  | segSuspGen n _ _ _ ih1 ih2 =>
    intro e2 s2 h2
    cases h2 with
    | segRet a b => obtain ⟨q1, q2⟩ := ih1 a; cases q1
    | segGen a b => obtain ⟨q1, q2⟩ := ih1 a; cases q1
    | segSuspOut n2 a => rw [n] at n2; cases n2
    | segSuspGen n2 a _ b => rw [n] at n2; cases n2; obtain ⟨q1, q2⟩ := ih1 a; cases q1; cases q2; exact ih2 b
theorem wp_both {α : Type} (M : Model) (Γ : Ctx) (t : Sem α) : ∀ (Q Q' : α → Pos → Shared → Prop) (E E' : Value → Pos → Shared → Prop) (p : Pos) (s : Shared), Sem.wp M Γ t Q E p s → Sem.wp M Γ t Q' E' p s →
    Sem.wp M Γ t (fun a p' s' => Q a p' s' ∧ Q' a p' s') (fun e p' s' => E e p' s' ∧ E' e p' s') p s := by
  induction t with
  | pure a => intro Q Q' E E' p s h h'; exact ⟨h, h'⟩
  | raise e => intro Q Q' E E' p s h h'; exact ⟨h, h'⟩
  | unsupported _ => intro Q Q' E E' p s h _; exact h
  | finish _ => intro Q Q' E E' p s h _; exact h
  | rule _ k ih => intro Q Q' E E' p s h h'; exact ih () Q Q' E E' p s h h'
  | «at» p' k ih => intro Q Q' E E' p s h h'; exact ih () Q Q' E E' p' s h h'
  | load a _ k ih =>
    intro Q Q' E E' p s h h'
    obtain ⟨o, ho, h⟩ := h
    obtain ⟨o', ho', h'⟩ := h'
    rw [ho] at ho'; cases ho'
    exact ⟨o, ho, ih o Q Q' E E' p s h h'⟩
  | update a _ f k ih => intro Q Q' E E' p s h h'; exact ⟨h.1, ih () Q Q' E E' p _ h.2 h'.2⟩
  | loadIfAlive a k ih => intro Q Q' E E' p s h h'; exact ih _ Q Q' E E' p s h h'
  | point _ k ih => intro Q Q' E E' p s h h'; exact ih () Q Q' E E' p s h h'
  | register _ _ => intro Q Q' E E' p s h _; exact h
  | alloc o k ih => intro Q Q' E E' p s h h'; exact ih _ Q Q' E E' p _ h h'
  | fresh k ih => intro Q Q' E E' p s h h'; exact ih _ Q Q' E E' p _ h h'
  | ask k ih => intro Q Q' E E' p s h h'; exact ih _ Q Q' E E' p s h h'
  | choose src m k ih => intro Q Q' E E' p s h h'; exact ⟨h.1, ih _ Q Q' E E' p _ h.2 h'.2⟩
  | os q _ k ih => intro Q Q' E E' p s h h'; exact ih _ Q Q' E E' p _ h h'
  | call c hd _ _ k ih =>
    intro Q Q' E E' p s h h'
    obtain ⟨r, s', hr, h⟩ := h
    obtain ⟨r', s'', hr', h'⟩ := h'
    obtain ⟨q1, q2⟩ := runs_one hr hr'
    cases q1; cases q2
    exact ⟨r, s', hr, ih r Q Q' E E' p s' h h'⟩
  | handled own k ih => intro Q Q' E E' p s h h'; exact ih _ Q Q' E E' p s h h'
  | genState g k ih =>
    intro Q Q' E E' p s h h'
    obtain ⟨st, hs, h⟩ := h
    obtain ⟨st', hs', h'⟩ := h'
    rw [hs] at hs'; cases hs'
    exact ⟨st, hs, ih _ Q Q' E E' p s h h'⟩
  | newGen c k ih => intro Q Q' E E' p s h h'; exact ih _ Q Q' E E' p _ h h'
  | resume g r _ k ih =>
    intro Q Q' E E' p s h h'
    obtain ⟨res, s', hw, h⟩ := h
    obtain ⟨res', s'', hw', h'⟩ := h'
    have q : res = res' ∧ s' = s'' := by
      revert hw hw'
      unfold Wakes
      split
      · exact fun z => z.elim
      · split
        · rintro ⟨e1, s1, a, _, rfl, rfl⟩ ⟨e2, s2, b, _, rfl, rfl⟩
          obtain ⟨z1, z2⟩ := runs_one a b
          cases z1; cases z2; exact ⟨rfl, rfl⟩
        · rintro ⟨rfl, rfl⟩ ⟨rfl, rfl⟩; exact ⟨rfl, rfl⟩
        · rintro ⟨rfl, rfl⟩ ⟨rfl, rfl⟩; exact ⟨rfl, rfl⟩
      · rintro ⟨e1, s1, a, _, rfl, rfl⟩ ⟨e2, s2, b, _, rfl, rfl⟩
        obtain ⟨z1, z2⟩ := runs_one a b
        cases z1; cases z2; exact ⟨rfl, rfl⟩
      · rintro ⟨rfl, rfl⟩ ⟨rfl, rfl⟩; exact ⟨rfl, rfl⟩
      · rintro ⟨rfl, rfl⟩ ⟨rfl, rfl⟩; exact ⟨rfl, rfl⟩
    obtain ⟨rfl, rfl⟩ := q
    exact ⟨res, s', hw, ih res Q Q' E E' p s' h h'⟩
  | yield _ _ _ _ => intro Q Q' E E' p s h _; exact h
  | stack k ih => intro Q Q' E E' p s h h'; exact ih _ Q Q' E E' p s h h'
  | fork _ _ => intro Q Q' E E' p s h _; exact h
  | thread k ih => intro Q Q' E E' p s h h'; exact ih _ Q Q' E E' p s h h'
  | await _ _ _ _ _ => intro Q Q' E E' p s h _; exact h
theorem wpAny_both {α : Type} {M : Model} {A : Around} {s : Shared} {t : Sem α} {Q Q' : α → Shared → Prop} {E : Value → Shared → Prop} (h : wpAny M A t Q E s) (h' : wpAny M A t Q' E s) : wpAny M A t (fun a s' => Q a s' ∧ Q' a s') E s := by
  have w : wpAny M A t (fun a s' => Q a s' ∧ Q' a s') (fun e s' => E e s' ∧ E e s') s := fun Γ p hΓ => wp_both M Γ t _ _ _ _ p s (h Γ p hΓ) (h' Γ p hΓ)
  exact wpAny_mono w (fun _ _ q => q) fun _ _ q => q.1
end G

/-! Ly35: statements told at states of which more is known (tokens of texts); defs that want something of their arguments. -/
namespace G
open PySem PySem.Spec PyProof.Rows L2

def Kp (s s' : Shared) : Prop := ∀ b o, s.heap.get? b = some o → s'.heap.get? b = some o
theorem ns_of {h h' : Heap} {a : Addr} {m : Str → Option Value} (hn : h.Ns a m) (k : ∀ o, h.get? a = some o → ∃ sl, h'.get? a = some { o with slots := sl }) : h'.Ns a m := by
  obtain ⟨o, es, ep, e, d, r⟩ := hn
  obtain ⟨sl, e2⟩ := k o e
  exact ⟨_, es, ep, e2, d, r⟩
theorem ns_kp {s s' : Shared} {a : Addr} {m : Str → Option Value} (hn : s.heap.Ns a m) (k : Kp s s') : s'.heap.Ns a m := ns_of hn fun o e => ⟨o.slots, k a o e⟩

structure PSx1 (P : Shared → Prop) (X : Cx) (st : Stmt) (t : TS) : Prop where
  run : ∀ (pins : List (Addr × Obj)) (s : Shared) (σ : L2.St) (H : Hp) (D : Ends), P s → Inv X pins σ H s → t D σ H → wpAny (model X.prog X.w) X.A (exec st X.env) (SP X pins D) X.xe s
structure PSx (P : Shared → Prop) (X : Cx) (sts : List Stmt) (t : TS) : Prop where
  run : ∀ (pins : List (Addr × Obj)) (s : Shared) (σ : L2.St) (H : Hp) (D : Ends), P s → Inv X pins σ H s → t D σ H → wpAny (model X.prog X.w) X.A (execs sts X.env) (SP X pins D) X.xe s
structure PEx (P : Shared → Prop) (X : Cx) (e : Expr) (t : TE) : Prop where
  run : ∀ (pins : List (Addr × Obj)) (s : Shared) (σ : L2.St) (H : Hp) (Q : VK), P s → Inv X pins σ H s → t σ H Q → wpAny (model X.prog X.w) X.A (eval e X.env) (EP X pins σ Q) X.xe s
section
variable {P P' : Shared → Prop} {X : Cx} {st : Stmt} {rest sts : List Stmt} {t t' u : TS} {e c : Expr} {te : TE} {tc : TT} {pos pos' : Pos}
theorem PSx1.of (h : PS X st t) : PSx1 P X st t := ⟨fun pins s σ H D _ I q => h.run pins s σ H D I q⟩
theorem PSx.of (h : PSs X sts t) : PSx P X sts t := ⟨fun pins s σ H D _ I q => h.run pins s σ H D I q⟩
theorem PSx.to (h : PSx P X sts t) (hp : ∀ s, P s) : PSs X sts t := ⟨fun pins s σ H D I q => h.run pins s σ H D (hp s) I q⟩
theorem PSx1.imp (h : PSx1 P X st t) (i : ∀ D σ H, t' D σ H → t D σ H) : PSx1 P X st t' := ⟨fun pins s σ H D p I q => h.run pins s σ H D p I (i D σ H q)⟩
theorem PSx.imp (h : PSx P X sts t) (i : ∀ D σ H, t' D σ H → t D σ H) : PSx P X sts t' := ⟨fun pins s σ H D p I q => h.run pins s σ H D p I (i D σ H q)⟩
theorem psx_cons (h1 : PSx1 P X st t) (kp : ∀ (pins : List (Addr × Obj)) (s : Shared) (σ : L2.St) (H : Hp) (D : Ends), P s → Inv X pins σ H s → t D σ H → wpAny (model X.prog X.w) X.A (exec st X.env) (fun f s' => f = .next → P' s') X.xe s) (h2 : PSx P' X rest u) :
    PSx P X (st :: rest) (tSeq t u) := by
  refine ⟨fun pins s σ H D hp I h => ?_⟩
  refine wpAny_execs_cons (wpAny_mono (wpAny_both (h1.run pins s σ H { D with nx := u D } hp I h) (kp pins s σ H { D with nx := u D } hp I h)) (fun f s1 ⟨q, k⟩ => ?_) fun _ _ z => z)
  cases f with
  | next =>
    obtain ⟨σ', H', I', q⟩ := q
    exact h2.run pins s1 σ' H' D (k rfl) I' q
  | ret v => exact q
  | brk => exact q
  | cont => exact q
theorem psx_cons0 (h1 : PSx1 P X st t) (h2 : PSs X rest u) : PSx P X (st :: rest) (tSeq t u) :=
  psx_cons (P' := fun _ => True) h1 (fun pins s σ H D hp I h => wpAny_mono (h1.run pins s σ H D hp I h) (fun _ _ _ _ => trivial) fun _ _ z => z) (.of h2)
theorem PSx.pre (h : PSx P X sts t) (i : ∀ s, P' s → P s) : PSx P' X sts t := ⟨fun pins s σ H D hp I q => h.run pins s σ H D (i s hp) I q⟩
theorem psx_one (h : PSx1 P X st t) : PSx P X [st] t := by
  refine ⟨fun pins s σ H D hp I q => wpAny_execs_cons (wpAny_mono (h.run pins s σ H D hp I q) (fun f s1 q => ?_) fun _ _ z => z)⟩
  cases f with
  | next => exact wpAny_execs_nil q
  | ret v => exact q
  | brk => exact q
  | cont => exact q
theorem psx_if {a b : List Stmt} {u : TS} (hc : PT X c tc) (kp : ∀ (pins : List (Addr × Obj)) (s : Shared) (σ : L2.St) (H : Hp) (Q : Bool → Hp → Prop), P s → Inv X pins σ H s → tc σ H Q → wpAny (model X.prog X.w) X.A (isTrue c X.env (eval c X.env)) (fun _ s' => P' s') X.xe s)
    (ha : PSx P' X a t) (hb : PSs X b u) : PSx1 P X (.If c a b pos) (tIfS tc t u) := by
  refine ⟨fun pins s σ H D hp I h => ?_⟩
  refine wpAny_If (wpAny_mono (wpAny_both (hc.run pins s σ H _ I h) (kp pins s σ H _ hp I h)) (fun d s1 ⟨⟨H1, I1, q1⟩, k⟩ => ?_) fun _ _ z => z)
  cases d with
  | true => exact ha.run pins s1 σ H1 D k I1 q1
  | false => exact hb.run pins s1 σ H1 D I1 q1
theorem psx_set {i : Nat} {x : Str} (hN : X.N.Nodup) (hi : X.N[i]? = some x) (hx : Loc X.env.scope x) (he : PEx P X e te) (hs : swapsWith e (some (.Name x pos')) pos.line X.env = pure false := by rfl) (hf : X.fn x = true ∨ X.env.scope.names.lookup x = some .local := by first | exact .inl rfl | exact .inr rfl | assumption) :
    PSx1 P X (.Assign [.Name x pos'] e pos) (tAsg te (gName i)) := by
  refine ⟨fun pins s σ H D hp I h => ?_⟩
  refine wpAny_Assign_Name (thn (he.run pins s σ H _ hp I h) fun v s1 ⟨y, H1, I1, r1, q1⟩ => ?_) hs
  exact store_ok I1 hN hi hx r1 (fun s2 I2 => ⟨_, H1, I2, q1⟩) hf
theorem psx_ret (he : PEx P X e te) : PSx1 P X (.Return (some e) pos) (tRet te) := by
  refine ⟨fun pins s σ H D hp I h => ?_⟩
  exact wpAny_Return_some (thn (he.run pins s σ H _ hp I h) fun v s1 ⟨x, H1, I1, r1, q1⟩ => ⟨x, σ, H1, I1, r1, q1⟩)
end
/-! readings -/
section
variable {K : PySem.W.Frag} {cm : Cm} {D : Ends} {σ : L2.St} {H : Hp}
theorem rd_seq {g h : Sm} (q : tS K cm (sSeq g h) D σ H) : tSeq (tS K cm g) (tS K cm h) D σ H := by
  obtain ⟨C, A, ρ, o, R, q, k⟩ := q
  unfold sSeq at q
  rw [Option.bind_eq_some_iff] at q
  obtain ⟨o1, h1, h2⟩ := q
  refine ⟨C, A, ρ, o1, R, h1, ?_⟩
  cases o1 with
  | nx ρ1 => exact fun σ1 H1 A1 l1 R1 => ⟨C, A1, ρ1, o, R1, h2, k.later l1⟩
  | rt t ρ1 => cases h2; exact k
  | bk ρ1 => cases h2; exact k
  | ct ρ1 => cases h2; exact k
theorem rd_if {f : Bm} {g h : Sm} (q : tS K cm (sIf f g h) D σ H) : tIfS (tT K cm f) (tS K cm g) (tS K cm h) D σ H := by
  obtain ⟨C, A, ρ, o, R, q, k⟩ := q
  unfold sIf at q
  rw [Option.bind_eq_some_iff] at q
  obtain ⟨⟨x, ρ1⟩, h1, h2⟩ := q
  refine ⟨C, A, ρ, x, ρ1, R, h1, fun H1 A1 l1 R1 => ?_⟩
  cases x with
  | true => exact iteT ⟨C, A1, ρ1, o, R1, h2, k.later l1⟩
  | false => exact iteF ⟨C, A1, ρ1, o, R1, h2, k.later l1⟩
theorem rd_ret {f : Rho → Option (T × Rho)} (q : tS K cm (sRet f) D σ H) : tRet (tN K cm f) D σ H := by
  obtain ⟨C, A, ρ, o, R, q, k⟩ := q
  unfold sRet at q
  rw [Option.map_eq_some_iff] at q
  obtain ⟨⟨t, ρ1⟩, h1, h2⟩ := q
  cases h2
  exact ⟨C, A, ρ, t, ρ1, R, h1, fun v H1 A1 F l1 R1 rt hn hF => k v σ H1 A1 F l1 R1 rt hn hF⟩
end
/-! a def by its body, where more is told of the entry -/
def At (s : Shared) (L : Addr) (m : Str → Option Value) (s1 : Shared) : Prop := Kp s s1 ∧ s.toks ≤ s1.toks ∧ s1.heap.Ns L m
structure FnT (P : Program) (w : World) (K : PySem.W.Frag) (mg : Str → Option Value) (base : Heap) (Pre : Shared → List Value → Prop) (k : Nat) (f : Addr) (fd : FuncData) (ps : List Str) (sp : Sp) : Prop where
  len : ∀ vs H Q E, sp vs H Q E → vs.length = ps.length
  run : ∀ (A : Around) (outer : List Env) (s : Shared) (H : Hp) (args : Args) (us : List Value) (vs : List V) (Q : VK) (E : XK), Room k A → Env0 P w K mg base A outer s H → BindsTo s fd args (ps.zip us) → Vals vs us → Pre s us → sp vs H Q E →
    codeAny (model P w) A (.call (.ref f) args) (CR CX0 outer P w H s Q E) s
theorem fnT_of {P : Program} {w : World} {K : PySem.W.Frag} {mg : Str → Option Value} {base : Heap} {Pre : Shared → List Value → Prop} {x qual : Str} {st : Stmt} {f : Addr} {fd : FuncData} {N ps : List Str} {k : Nat} {sp : Sp} (F : Fun K x qual st f fd) (S : FnScope N ps (defScope st))
    (len : ∀ vs H Q E, sp vs H Q E → vs.length = ps.length)
    (hbody : ∀ (cdv : Value) (A : Around) (outer : List Env) (s : Shared) (H : Hp) (us : List Value) (vs : List V) (Q : VK) (E : XK), Room k (A.deeper (envOfC qual (defScope st) s.heap.objs.size f cdv)) → Env0 P w K mg base A outer s H → Vals vs us → Pre s us → sp vs H Q E →
      ∃ t, PSx (At s s.heap.objs.size (bindL (envOfC qual (defScope st) s.heap.objs.size f cdv).kindOf (ps.zip us) fun _ => none)) (cxOf CX0 P w K mg base N qual (defScope st) f cdv A outer s H E).nox (defBody st) t ∧ t { nx := fun _ H' => Q .non H', rt := Q } (start N vs) H) :
    FnT P w K mg base Pre (k + 1) f fd ps sp := by
  obtain ⟨oc, od, kV, doc, pm, an, cdv, ct, osl, rfl, lk, hcd⟩ := F.ex
  refine ⟨len, fun A outer s H args us vs Q E hr e0 hb r hpre hsp => ?_⟩
  have hl := len _ _ _ _ hsp
  have KX : K.In s.heap := e0.mod.kin.keeps fun b o e => (e0.bs b o e).1
  have lim : s.heap.NoLimit := e0.mod.nolimit.keeps fun b o e => (e0.bs b o e).1
  have hkind : ∀ y ∈ ps.zip us, (defScope st).names.lookup y.1 = some .local ∨ ((defScope st).names.lookup y.1 = some .cell ∧ ((cellsFrom (s.heap.objs.size + 1) (defScope st).names []).lookup y.1).isSome = true) := fun ⟨n, v⟩ hy => by
    rcases S.par n (List.of_mem_zip hy).1 with q | q
    · exact .inl q
    · exact .inr ⟨q, PySem.W.cellsFrom_some _ _ _ (.inl q)⟩
  refine codeAny_call_function hr.depth (KX _ _ lk) rfl S.co S.gen rfl (PySem.W.codeRec_of KX hcd) (hb _ _ _ _ ?_)
  refine wpAny_mono (wpAny_toks (wpAny_newFunctionEnv_cells (Q := fun env s1 => env = newEnv (defScope st) s.heap.objs.size mainGlobals (cellsFrom (s.heap.objs.size + 1) (defScope st).names []) (qual ++ ".<locals>.") (some f) cdv none builtinsNs ∧ InCallC s env.locals (bindL env.kindOf (ps.zip us) fun _ => none) env.cells (bindC env.kindOf (ps.zip us) fun _ => none) s1) S.kind hkind fun env he s1 x => ⟨he, x⟩)) (fun env s1 ⟨htk, he, x⟩ => ?_) fun _ _ z => z.2
  subst he
  refine ⟨lim.keeps x.toInCall.keep, codeAny_func ?_⟩
  obtain ⟨t, ht, hq⟩ := hbody cdv A outer s H us vs Q E (hr.deeper _) e0 r hpre hsp
  have I : Inv (cxOf CX0 P w K mg base N qual (defScope st) f cdv A outer s H E) [] (start N vs) H s1 := inv_start S hr.hd e0 hl r x
  refine wpAny_mono (ht.run [] s1 (start N vs) H _ ⟨x.toInCall.keep, htk, x.toInCall.ns⟩ (I.wish _) hq) (fun fl s' hs => ?_) fun e s' hs => False.elim hs
  have hs := hs.unwish
  have fin : ∀ {σ' : L2.St} {H' : Hp} {v : V} {u : Value}, Inv (cxOf CX0 P w K mg base N qual (defScope st) f cdv A outer s H E) [] σ' H' s' → RelV v u → Q v H' → CE outer P w H s Q u s' :=
    fun {σ' H' v u} J rv q => ⟨v, H', J.os, J.bare, J.base, J.hok, rv, q⟩
  cases fl with
  | ret u =>
    obtain ⟨v, σ', H', J, rv, q⟩ := hs
    exact fin J rv q
  | next =>
    obtain ⟨σ', H', J, q⟩ := hs
    exact fin (v := V.non) (u := Value.none) J rfl q
  | brk =>
    obtain ⟨_, _, _, q⟩ := hs
    exact False.elim q
  | cont =>
    obtain ⟨_, _, _, q⟩ := hs
    exact False.elim q
theorem FnT.ok {P : Program} {w : World} {K : PySem.W.Frag} {mg : Str → Option Value} {base : Heap} {f : Addr} {fd : FuncData} {ps : List Str} {k : Nat} {sp : Sp} (F : FnT P w K mg base (fun _ _ => True) k f fd ps sp) : FnOk P w K mg base CX0 k f fd ps sp :=
  ⟨F.len, fun A outer s H args us vs Q E hr he hb r q => F.run A outer s H args us vs Q E hr he hb r trivial q⟩
end G

/-! Ly36: names, slices at a known state; calls that keep the frame; calls of defs that want something of their arguments. -/
namespace G
open PySem PySem.Spec PyProof.Rows L2

section
variable {M : Model} {A : Around} {E : Value → Shared → Prop} {env : Env} {s : Shared} {m : Str → Option Value} {x : Str} {v : Value} {pos : Pos}
theorem ev_name {Q : Value → Shared → Prop} (hk : env.scope.kind = .function) (hl : env.kindOf x = some .local) (hn : s.heap.Ns env.locals m) (hv : m x = some v) (h : Q v s) (hd : (x == ("__debug__" : Str)) = false := by decide) :
    wpAny M A (eval (.Name x pos) env) Q E s := wpAny_Name (wpAny_loadName_local hk hl hn hv h) hd
theorem slice_post {z : Str} {t : Tok} {l u : Option (Int × Tok)} {Q : Value → Shared → Prop} (hz : z.length ≤ sizeLine) (h : ∀ w t' k, w.length ≤ z.length → s.toks ≤ k → Q (.str w t') { s with toks := k }) : (sliceMade z t l u none).post Q s := by
  have hl : (PySem.StrLaws.sliceText z (l.map (·.1)) (u.map (·.1))).length ≤ z.length := by
    rw [sliceText_cut]
    exact cutS_length z _ _
  unfold PySem.StrLaws.sliceText at hl
  show Made.post (if ((1 : Int) == 1 && (Builtin.Str.strSliceIndices (l.map (·.1)) (u.map (·.1)) 1 z.length).length == z.length) = true then Made.val (.str z t)
    else Made.str ⟨((Builtin.Str.strSliceIndices (l.map (·.1)) (u.map (·.1)) 1 z.length).filterMap (z.cps[·]?)).toArray⟩) Q s
  by_cases c : ((1 : Int) == 1 && (Builtin.Str.strSliceIndices (l.map (·.1)) (u.map (·.1)) 1 z.length).length == z.length) = true
  · rw [if_pos c]
    exact h z t s.toks (Nat.le_refl _) (Nat.le_refl _)
  · rw [if_neg c] at hl ⊢
    exact ⟨Nat.le_trans hl hz, h _ _ _ hl (Nat.le_succ _)⟩
end
section
variable {X : Cx} {pins : List (Addr × Obj)} {σ : L2.St} {H : Hp} {s : Shared}
theorem look_at (I : Inv X pins σ H s) {i : Nat} {x : Str} {v : V} {m : Str → Option Value} (hi : X.N[i]? = some x) (e : σ[i]? = some (some v)) (hl : X.env.scope.names.lookup x = some .local) (hn : s.heap.Ns X.env.locals m) : ∃ u, RelV v u ∧ m x = some u := by
  obtain ⟨m', hn', hl'⟩ := I.loc
  obtain ⟨u, r, l⟩ := hl' i x v hi e (.inl hl)
  have hm : m x = m' x := by
    obtain ⟨o, es, ep, e1, d1, _, f1⟩ := hn
    obtain ⟨o', es', ep', e2, d2, _, f2⟩ := hn'
    rw [e1] at e2; cases e2
    rw [d1] at d2; injection d2 with z; subst z
    rw [← f1, ← f2]
  rcases l with ⟨_, hm'⟩ | ⟨hk, _⟩
  · exact ⟨u, r, by rw [hm]; exact hm'⟩
  · have : X.env.kindOf x = some .local := hl
    rw [this] at hk
    rcases hk with z | z <;> cases z
theorem tup_at {P : Program} {w : World} {K : PySem.W.Frag} {h : Heap} {a : Addr} {xs : List V} (hok : HOk P w H h) (KX : K.In h) (hq : SqT K H a xs) : ∃ its : List Value, Vals xs its ∧ IsTup h a its.toArray := by
  rcases hq with hq | ⟨o, its, n, hk, hc, hs, hz, r⟩
  · obtain ⟨z, its, r, p⟩ := hq.ok hok
    exact ⟨its, r, p⟩
  · exact ⟨its.toList, r, o, KX a o hk, hc, n, by simpa using hs⟩
theorem sp_rd {K : PySem.W.Frag} {cm : Cm} {N ps : List Str} {g : Sm} {vs : List V} {Q : VK} {E : XK} (h : spG K cm ps.length (runD (N.length - ps.length) g) vs H Q E) : tS K cm g { nx := fun _ H' => Q .non H', rt := Q } (start N vs) H := by
  obtain ⟨hl, Pw, A', ss, t, ss', R, q, kk⟩ := h
  unfold runD at q
  rw [Option.bind_eq_some_iff] at q
  obtain ⟨o, q1, q2⟩ := q
  have hs : ss.length = vs.length := by have := R.len; simpa using this.symm
  have R0 := R.ext (N.length - vs.length)
  rw [← hl] at q1
  refine ⟨_, A', _, o, R0, q1, ?_⟩
  cases o with
  | nx ρ =>
    cases q2
    exact fun σ1 H1 A1 l1 R1 => kk _ H1 A1 [] _ l1 (R1.take ss.length) (RT.pure .non) .nil fun a m => nomatch m
  | rt t' ρ =>
    cases q2
    exact fun v σ1 H1 A1 F l1 R1 rt hn hF => kk v H1 A1 F _ l1 (R1.take ss.length) rt hn hF
  | bk ρ => cases q2
  | ct ρ => cases q2
/-- what a call does to the frame's own names: nothing -/
def Fk (X : Cx) (s s' : Shared) : Prop := (∀ m, s.heap.Ns X.env.locals m → s'.heap.Ns X.env.locals m) ∧ s.toks ≤ s'.toks
theorem Fk.refl : Fk X s s := ⟨fun _ h => h, Nat.le_refl _⟩
theorem Fk.trans {s1 s2 : Shared} (a : Fk X s s1) (b : Fk X s1 s2) : Fk X s s2 := ⟨fun m h => b.1 m (a.1 m h), Nat.le_trans a.2 b.2⟩
theorem fk_call {cm : Cm} {e : Expr} {es : List Expr} {p pos : Pos} {ps : List Str} {k j n : Nat} {x : Str} {mr : Rho → Option (T × Rho)} {g : Am} {Q : VK} (D : Dg X.prog X.w X.K X.mg X.base cm k x ps mr) (hr : Room j X.A) (hk : k ≤ j) (hg : Gl X x) (ha : FA X cm (e :: es) g) (I : Inv X pins σ H s)
    (hus : wpAny (model X.prog X.w) X.A (spliced (backTo pos (starEach (e :: es) X.env))) (fun _ s1 => Fk X s s1) X.xe s) (q : tN X.K cm (nCall n mr g) σ H Q) (hn : ps.length = n := by rfl)
    (hdb : (x == ("__debug__" : Str)) = false := by decide) (he : starEach (e :: es) X.env = (false, eval e X.env) :: starEach es X.env := by rfl) (hpl : (backTo pos (starEach es X.env)).any (·.1) = false := by rfl) :
    wpAny (model X.prog X.w) X.A (eval (.Call (.Name x p) (e :: es) [] pos) X.env) (fun _ s' => Fk X s s') X.xe s := by
  subst hn
  obtain ⟨f, fd, F, hm, hkp, hb⟩ := D
  refine wpAny_Call_Name_kw (ld_glob I hg hm ?_ hdb)
  refine PySem.W.callWith_K (h₀ := X.base) I.ok.mod.kin hkp (wpAny_mono (wpAny_both (ha.run pos pins s σ H _ I (tN_call (E := E0) q)) hus) (fun us s1 ⟨⟨vs, H1, I1, r, q1⟩, k1⟩ => ⟨I1.kIn, ?_⟩) fun _ _ z => z) he hpl
  have F := F.mono hk
  have r2 : Vals (vs ++ []) (us ++ []) := r.append .nil
  have hl : (us ++ []).length = ps.length := by rw [← r2.length]; exact F.len _ _ _ _ q1
  show wpAny _ _ (call (.ref f) us) _ _ s1
  refine wpAny_call (codeAny_mono (PySem.codeAny_toks_of (Nat.le_refl s1.toks) (F.run X.A X.stack s1 H1 ⟨us, []⟩ (us ++ []) (vs ++ []) Q E0 hr I1.env0 (hb s1 us I1.kIn hl) r2 q1)) fun r s' ⟨htk, hq⟩ => ?_)
  cases r with
  | error e => exact pass0 pins σ H1 s1 e s' I1 hq
  | ok fl =>
    cases fl with
    | ret u =>
      obtain ⟨v, H', os, bare, un, hok, rv, qv⟩ := hq
      refine k1.trans ⟨fun m hm => ?_, htk⟩
      obtain ⟨o, es', ep, eo, d, rest⟩ := hm
      obtain ⟨sl, e2⟩ := un.any eo I1.free (by simp)
      exact ⟨_, es', ep, e2, d, rest⟩
    | next => exact False.elim hq
    | brk => exact False.elim hq
    | cont => exact False.elim hq
/-- a call of a def that wants something of its arguments -/
theorem pex_callT {P : Shared → Prop} {Pre : Shared → List Value → Prop} {cm : Cm} {e : Expr} {es : List Expr} {p pos : Pos} {ps : List Str} {k n : Nat} {x : Str} {f : Addr} {fd : FuncData} {mr : Rho → Option (T × Rho)} {g : Am} (F : FnT X.prog X.w X.K X.mg X.base Pre k f fd ps (spG X.K cm ps.length mr))
    (hm : X.mg x = some (.ref f)) (hkp : PySem.W.keepIn X.K (.ref f) = true) (hb : L2.Binds X.K fd ps []) (hr : Room k X.A) (hg : Gl X x) (ha : FA X cm (e :: es) g)
    (hus : ∀ (pins : List (Addr × Obj)) (s : Shared) (σ : L2.St) (H : Hp), P s → Inv X pins σ H s → wpAny (model X.prog X.w) X.A (spliced (backTo pos (starEach (e :: es) X.env))) (fun us s1 => Pre s1 us) X.xe s) (hn : ps.length = n := by rfl)
    (hdb : (x == ("__debug__" : Str)) = false := by decide) (he : starEach (e :: es) X.env = (false, eval e X.env) :: starEach es X.env := by rfl) (hpl : (backTo pos (starEach es X.env)).any (·.1) = false := by rfl) :
    PEx P X (.Call (.Name x p) (e :: es) [] pos) (tN X.K cm (nCall n mr g)) := by
  subst hn
  refine ⟨fun pins s σ H Q hp I q => ?_⟩
  refine wpAny_Call_Name_kw (ld_glob I hg hm ?_ hdb)
  refine PySem.W.callWith_K (h₀ := X.base) I.ok.mod.kin hkp (wpAny_mono (wpAny_both (ha.run pos pins s σ H _ I (tN_call (E := E0) q)) (hus pins s σ H hp I)) (fun us s1 ⟨⟨vs, H1, I1, r, q1⟩, k1⟩ => ⟨I1.kIn, ?_⟩) fun _ _ z => z) he hpl
  have q2 : spG X.K cm ps.length mr vs H1 Q E0 := by
    have z : spG X.K cm ps.length mr (vs ++ []) H1 Q E0 := q1
    rw [List.append_nil] at z; exact z
  have hl : us.length = ps.length := by rw [← r.length]; exact F.len _ _ _ _ q2
  have hbs : BindsTo s1 fd ⟨us, []⟩ (ps.zip us) := by
    have z := hb s1 us I1.kIn (by rw [List.append_nil]; exact hl)
    rw [List.append_nil] at z; exact z
  show wpAny _ _ (call (.ref f) us) _ _ s1
  refine wpAny_call (codeAny_mono (F.run X.A X.stack s1 H1 ⟨us, []⟩ us vs Q E0 hr I1.env0 hbs r k1 q2) fun r s' hq => ?_)
  cases r with
  | error e => exact pass0 pins σ H1 s1 e s' I1 hq
  | ok fl =>
    cases fl with
    | ret u => exact I1.after hq
    | next => exact False.elim hq
    | brk => exact False.elim hq
    | cont => exact False.elim hq
end
end G

/-! Ly37: mirrors of Ly21..Ly33 applied to slots; operators at texts. -/
namespace G
open PySem PySem.Spec L2
@[simp] theorem nSset_ap (f : Em) (ρ : Rho) : nSset f ρ = ((f ρ).bind fun p => (rd p.2 p.1).bind fun d => match d with
  | .str s => if s.length < 63 then some (.ls ((ssort s).map fun c => .str [c]), p.2) else none
  | _ => none) := (rfl)
@[simp] theorem eJoin_ap (f g : Em) (ρ : Rho) : eJoin f g ρ = ((f ρ).bind fun p => match p.1 with
  | .val (.str a) => (g p.2).bind fun q => (rd q.2 q.1).bind fun d => (cJoin a d).map fun z => (.val z, q.2)
  | _ => none) := (rfl)
@[simp] theorem eTm_ap (m : List Nat → D → Option D) (f g : Em) (ρ : Rho) : eTm m f g ρ = ((f ρ).bind fun p => match p.1 with
  | .val (.str a) => (g p.2).bind fun q => (rd q.2 q.1).bind fun d => (m a d).map fun z => (.val z, q.2)
  | _ => none) := (rfl)
@[simp] theorem nDc_ap (own : List Nat) (f : Im) (h : D → Rho → Option Rho) (ifs : Bm) (ke ve : Em) (ρ : Rho) : nDc own f h ifs ke ve ρ = ((f ρ).bind fun p => if p.1.length ≤ big then (wipeS own p.2).bind fun ρw => (dcF own h ifs ke ve p.1 [] ρw).map fun r => (.di r.1, back p.2 r.2 own) else none) := (rfl)
@[simp] theorem nCallG_ap (n : Nat) (f : Rho → Option (T × Rho)) (g : Mm) (ρ : Rho) : nCallG n f g ρ = ((g ρ).bind fun p => match p.1 with
  | t :: ts => (pls ts).bind fun ds => if ds.length + 1 = n then (f (.pin t :: slP ds)).map fun r => (r.1, p.2) else none
  | [] => none) := (rfl)
@[simp] theorem nCallK_ap (n : Nat) (π : List Nat) (f : Rho → Option (T × Rho)) (g : Am) (ρ : Rho) : nCallK n π f g ρ = ((g ρ).bind fun p => (pus p.2 p.1).bind fun ds => if ds.length = n ∧ (pm π ds).length = n then (ap f (pm π ds)).map fun t => (t, p.2) else none) := by
  simp only [nCallK, ap, Option.map_map]; rfl
@[simp] theorem eExt_ap (i : Nat) (g : Rho → Option (T × Rho)) (ρ : Rho) : eExt i g ρ = ((isLs ρ i).bind fun _ => (g ρ).bind fun p => match p.1 with
  | .ls zs => (isLs p.2 i).bind fun s => if s.2.length + zs.length ≤ big then some (.val .non, p.2.set i (s.1.w (.ls (s.2 ++ zs)))) else none
  | _ => none) := (rfl)
@[simp] theorem nLc2_ap (own own1 : List Nat) (f : Im) (h : D → Rho → Option Rho) (ifs : Bm) (f1 : Im) (h1 : D → Rho → Option Rho) (ifs1 : Bm) (elt : Em) (ρ : Rho) : nLc2 own own1 f h ifs f1 h1 ifs1 elt ρ = ((f ρ).bind fun p => (wipeS own p.2).bind fun ρw => (lc2F own own1 h ifs f1 h1 ifs1 elt p.1 ρw).bind fun r => if r.1.length ≤ big then some (.ls r.1, back p.2 r.2 own) else none) := (rfl)
@[simp] theorem iEnS_ap (g : Am) (ρ : Rho) : iEnS g ρ = ((g ρ).bind fun p => (pus p.2 p.1).bind fun es => match es with
  | [.str x] => some (enumT x, p.2)
  | _ => none) := (rfl)
@[simp] theorem iZi2_ap (g : Am) (ρ : Rho) : iZi2 g ρ = ((g ρ).bind fun p => (pus p.2 p.1).bind fun es => match es with
  | [.str x, .str y] => some (zipT x y, p.2)
  | _ => none) := (rfl)
@[simp] theorem iOr_ap (f g : Im) (ρ : Rho) : iOr f g ρ = ((f ρ).or (g ρ)) := (rfl)
@[simp] theorem eRepl_ap (f g h : Em) (ρ : Rho) : eRepl f g h ρ = ((f ρ).bind fun p => (g p.2).bind fun q => (h q.2).bind fun r => (rd r.2 p.1).bind fun a => (rd r.2 q.1).bind fun c => (rd r.2 r.1).bind fun z => (cRepl a c z).map fun y => (.val y, r.2)) := (rfl)

@[simp] theorem cIx_str (s : List Nat) (i : Int) : cIx (.str s) (.int i) = if s.length ≤ big then (atI s i).map fun c => .str [c] else none := rfl
@[simp] theorem cInA_str (c : Nat) (s : List Nat) : cInA (.str [c]) (.str s) = some (.bl (decide (c ∈ s))) := rfl
@[simp] theorem cNi_str (c : Nat) (s : List Nat) : cNi (.str [c]) (.str s) = some (.bl (!decide (c ∈ s))) := rfl
@[simp] theorem cAdd_str (s t : List Nat) : cAdd (.str s) (.str t) = if s.length + t.length ≤ big then some (.str (s ++ t)) else none := rfl
@[simp] theorem cAdd_lst (s t : List D) : cAdd (.lst s) (.lst t) = if s.length + t.length ≤ big then some (.lst (s ++ t)) else none := rfl
@[simp] theorem cAdd_tup (s t : List D) : cAdd (.tup s) (.tup t) = if s.length + t.length ≤ big then some (.tup (s ++ t)) else none := rfl
@[simp] theorem cSl_str (s : List Nat) (l h : Option Int) : cSl (.str s) l h = if s.length ≤ big then some (.str (cutD s l h)) else none := rfl
@[simp] theorem cSl_lst (s : List D) (l h : Option Int) : cSl (.lst s) l h = some (.lst (cutD s l h)) := rfl
@[simp] theorem cSl_tup (s : List D) (l h : Option Int) : cSl (.tup s) l h = some (.tup (cutD s l h)) := rfl
@[simp] theorem cLen_str (s : List Nat) : cLen [.str s] = if s.length ≤ big then some (.int s.length) else none := rfl
@[simp] theorem isD_nn : isD .non .non = some (.bl true) := rfl
@[simp] theorem isD_in (i : Int) : isD (.int i) .non = some (.bl false) := rfl
@[simp] theorem isD_bn (i : Bool) : isD (.bl i) .non = some (.bl false) := rfl
@[simp] theorem isD_sn (s : List Nat) : isD (.str s) .non = some (.bl false) := rfl
@[simp] theorem isD_tn (s : List D) : isD (.tup s) .non = some (.bl false) := rfl
@[simp] theorem isD_ln (s : List D) : isD (.lst s) .non = some (.bl false) := rfl
@[simp] theorem notD_nn : notD .non .non = some (.bl false) := rfl
@[simp] theorem notD_in (i : Int) : notD (.int i) .non = some (.bl true) := rfl
@[simp] theorem cNeg_int (i : Int) : cNeg (.int i) = some (.int (-i)) := rfl
def okS (s : List Nat) : Prop := ∀ c ∈ s, c < 1114112
theorem ok_str {s : List Nat} (h : okS s) : D.ok (.str s) = true := by
  simp only [D.ok, D.flat, D.dep, Bool.and_eq_true, List.all_eq_true, decide_eq_true_eq]
  exact ⟨h, decide_eq_true (Nat.zero_le 64)⟩
theorem cEq_str {s t : List Nat} (hs : okS s) (ht : okS t) : cEq (.str s) (.str t) = some (.bl (decide (s = t))) := by
  unfold cEq
  rw [ok_str hs, ok_str ht]
  simp [D.eq]
theorem cNe_str {s t : List Nat} (hs : okS s) (ht : okS t) : cNe (.str s) (.str t) = some (.bl (!decide (s = t))) := by
  unfold cNe
  rw [ok_str hs, ok_str ht]
  simp [D.eq]
theorem okS_one {c : Nat} (h : c < 1114112) : okS [c] := fun d m => by
  obtain rfl : d = c := by simpa using m
  exact h
@[simp] theorem wipeS_nil (ρ : Rho) : wipeS [] ρ = some ρ := rfl
/-- a while loop by a measure -/
theorem whileF_mu {c : Bm} {b : Sm} (I : Rho → Prop) (μ : Rho → Nat) (hs : ∀ ρ, I ρ → (∃ ρ1, c ρ = some (true, ρ1) ∧ ∃ ρ2, (b ρ1 = some (.nx ρ2)) ∧ I ρ2 ∧ μ ρ2 < μ ρ) ∨ ∃ ρ1, c ρ = some (false, ρ1)) :
    ∀ (n : Nat) (ρ : Rho), I ρ → μ ρ < n → ∃ ρ' ρ1, I ρ' ∧ c ρ' = some (false, ρ1) ∧ whileF c b n ρ = some (.nx ρ1)
  | 0, _, _, h => absurd h (Nat.not_lt_zero _)
  | n + 1, ρ, i, h => by
    rcases hs ρ i with ⟨ρ1, e1, ρ2, e2, i2, lt⟩ | ⟨ρ1, e1⟩
    · obtain ⟨ρ', ρ3, i3, e3, e4⟩ := whileF_mu I μ hs n ρ2 i2 (by omega)
      exact ⟨ρ', ρ3, i3, e3, by simp [whileF, e1, e2, e4]⟩
    · exact ⟨ρ, ρ1, i, e1, by simp [whileF, e1]⟩
/-- a comprehension that leaves things out; every turn leaves the slots as they were -/
theorem lcF_filter {own : List Nat} {h : D → Rho → Option Rho} {ifs : Bm} {elt : Em} {ρ : Rho} {f : D → D} {p : D → Bool} : ∀ {ds : List D}, (∀ d ∈ ds, ∃ ρ1 ρ2, h d ρ = some ρ1 ∧ ifs ρ1 = some (p d, ρ2) ∧ (p d = true → ∃ r ρ3, elt ρ2 = some (r, ρ3) ∧ pu ρ3 r = some (f d) ∧ wipeS own ρ3 = some ρ) ∧ (p d = false → wipeS own ρ2 = some ρ)) → lcF own h ifs elt ds ρ = some ((ds.filter p).map f, ρ)
  | [], _ => rfl
  | d :: ds, k => by
    obtain ⟨ρ1, ρ2, e1, e2, e3, e4⟩ := k d (by simp)
    have ih := lcF_filter (ds := ds) fun d m => k d (by simp [m])
    cases hp : p d with
    | true =>
      obtain ⟨r, ρ3, e5, e6, e7⟩ := e3 hp
      simp [lcF, e1, e2, hp, e5, e6, e7, ih, List.filter_cons]
    | false =>
      have e7 := e4 hp
      simp [lcF, e1, e2, hp, e7, ih, List.filter_cons]
/-- the same over a list that comes of another one -/
theorem lcF_mp {α : Type} {own : List Nat} {h : D → Rho → Option Rho} {ifs : Bm} {elt : Em} {ρ : Rho} (u g : α → D) : ∀ {xs : List α}, (∀ x ∈ xs, ∃ ρ1 ρ2 r ρ3, h (u x) ρ = some ρ1 ∧ ifs ρ1 = some (true, ρ2) ∧ elt ρ2 = some (r, ρ3) ∧ pu ρ3 r = some (g x) ∧ wipeS own ρ3 = some ρ) → lcF own h ifs elt (xs.map u) ρ = some (xs.map g, ρ)
  | [], _ => rfl
  | x :: xs, k => by
    obtain ⟨ρ1, ρ2, r, ρ3, e1, e2, e3, e4, e5⟩ := k x (by simp)
    have ih := lcF_mp u g (xs := xs) fun d m => k d (by simp [m])
    simp [lcF, e1, e2, e3, e4, e5, ih]
theorem lcF_fp {α : Type} {own : List Nat} {h : D → Rho → Option Rho} {ifs : Bm} {elt : Em} {ρ : Rho} (u g : α → D) (p : α → Bool) : ∀ {xs : List α}, (∀ x ∈ xs, ∃ ρ1 ρ2, h (u x) ρ = some ρ1 ∧ ifs ρ1 = some (p x, ρ2) ∧ (p x = true → ∃ r ρ3, elt ρ2 = some (r, ρ3) ∧ pu ρ3 r = some (g x) ∧ wipeS own ρ3 = some ρ) ∧ (p x = false → wipeS own ρ2 = some ρ)) →
    lcF own h ifs elt (xs.map u) ρ = some ((xs.filter p).map g, ρ)
  | [], _ => rfl
  | x :: xs, k => by
    obtain ⟨ρ1, ρ2, e1, e2, e3, e4⟩ := k x (by simp)
    have ih := lcF_fp u g p (xs := xs) fun d m => k d (by simp [m])
    cases hp : p x with
    | true =>
      obtain ⟨r, ρ3, e5, e6, e7⟩ := e3 hp
      simp [lcF, e1, e2, hp, e5, e6, e7, ih, List.filter_cons]
    | false =>
      have e7 := e4 hp
      simp [lcF, e1, e2, hp, e7, ih, List.filter_cons]
end G

/-! Ly38: plain facts that the laws' plain parts share. -/
namespace G
open PySem PySem.Spec L2
theorem big_is : big = 1000000 := rfl
theorem mulOk_r {i j : Int} (h : j.natAbs < 2 ^ 63) : mulOk i j = true := by simp [mulOk, h]
theorem mulOk_l {i j : Int} (h : i.natAbs < 2 ^ 63) : mulOk i j = true := by simp [mulOk, h]
theorem rgOk_of {m : Int} (h : m.natAbs < 2 ^ 60) : rgOk m = true := Nat.ble_eq.mpr (by omega)
theorem rgOk_nat {m : Nat} (h : m < 2 ^ 60) : rgOk (m : Int) = true := rgOk_of (by omega)
theorem cutD_from {α : Type} (xs : List α) (k : Nat) : cutD xs (some (k : Int)) none = xs.drop k := by
  rw [cutD, HT.sIx_nat, HT.sIx_none]
  by_cases h : k ≤ xs.length
  · rw [Nat.min_eq_left h, List.take_of_length_le (by rw [List.length_drop]; exact Nat.le_refl _)]
  · rw [List.drop_eq_nil_of_le (by omega : xs.length ≤ k), List.drop_eq_nil_of_le (by omega), List.take_nil]
theorem cutD_upto {α : Type} (xs : List α) (k : Nat) : cutD xs none (some (k : Int)) = xs.take k := by
  rw [cutD, HT.sIx_nat, HT.sIx_none, List.drop_zero, Nat.sub_zero]
  by_cases h : k ≤ xs.length
  · rw [Nat.min_eq_left h]
  · rw [Nat.min_eq_right (by omega), List.take_of_length_le (Nat.le_refl _), List.take_of_length_le (by omega)]
theorem cutD_one {α : Type} (xs : List α) : cutD xs (some 1) none = xs.drop 1 := cutD_from xs 1
theorem cutD_map {α β : Type} (f : α → β) (xs : List α) (l h : Option Int) : cutD (xs.map f) l h = (cutD xs l h).map f := by
  simp [cutD, List.map_take, List.map_drop]
theorem cutD_len {α : Type} (xs : List α) (l h : Option Int) : (cutD xs l h).length ≤ xs.length := by
  simp [cutD]; omega
theorem boolL_map {α : Type} (f : α → Bool) : ∀ ds : List α, boolL (ds.map fun d => D.bl (f d)) = some (ds.map f)
  | [] => rfl
  | d :: ds => by
    simp only [List.map_cons, boolL, boolL_map f ds]
    rfl
theorem cAll_map {α : Type} (f : α → Bool) (ds : List α) : cAll [.lst (ds.map fun d => D.bl (f d))] = some (.bl (ds.all f)) := by
  simp only [cAll, boolL_map]
  simp [List.all_map]
theorem intL_mp {α : Type} (f : α → Int) : ∀ ds : List α, intL (ds.map fun d => D.int (f d)) = some (ds.map f)
  | [] => rfl
  | d :: ds => by
    simp only [List.map_cons, intL, intL_mp f ds]
    rfl
theorem strL_mp {α : Type} (f : α → List Nat) : ∀ ds : List α, strL (ds.map fun d => D.str (f d)) = some (ds.map f)
  | [] => rfl
  | d :: ds => by
    simp only [List.map_cons, strL, strL_mp f ds]
    rfl
/-- a text as a list of its signs -/
def sgs (xs : List Nat) : List D := xs.map fun c => .str [c]
@[simp] theorem sgs_len (xs : List Nat) : (sgs xs).length = xs.length := by simp [sgs]
theorem jnL_nil : ∀ xs : List Nat, jnL [] (xs.map fun c => [c]) = xs
  | [] => rfl
  | [c] => rfl
  | c :: d :: r => by
    have ih := jnL_nil (d :: r)
    simp only [List.map_cons] at ih ⊢
    rw [jnL]
    rw [ih]; rfl
theorem sum_ones : ∀ xs : List Nat, ((xs.map fun c => [c]).map (·.length)).sum = xs.length
  | [] => rfl
  | c :: r => by
    have := sum_ones r
    simp only [List.map_cons, List.sum_cons, this, List.length_cons, List.length_nil]
    omega
theorem cJoin_sgs (xs : List Nat) (h : xs.length ≤ big) : cJoin [] (.lst (sgs xs)) = some (.str xs) := by
  simp only [cJoin, lstD, sgs, Option.bind_some, strL_mp fun c : Nat => [c], jnL_nil, sum_ones]
  rw [if_pos]
  simpa using h
/-! sorting signs -/
def nsort : List Nat → List Nat
  | [] => []
  | c :: r => nins c (nsort r)
where nins (c : Nat) : List Nat → List Nat
  | [] => [c]
  | b :: r => if b < c then b :: nins c r else c :: b :: r
theorem sg_lt (a b : Nat) : (([a] : List Nat) < [b]) ↔ a < b := by
  simp [List.cons_lt_cons_iff]
theorem sLt_one (a b : Nat) : sLt [a] [b] = decide (a < b) := by
  unfold sLt
  by_cases h : a < b
  · rw [decide_eq_true h, decide_eq_true ((sg_lt a b).mpr h)]
  · rw [decide_eq_false h, decide_eq_false fun z => h ((sg_lt a b).mp z)]
theorem insT_sg (c : Nat) : ∀ r : List Nat, insT [c] (r.map fun c => [c]) = (nsort.nins c r).map fun c => [c]
  | [] => rfl
  | b :: r => by
    simp only [List.map_cons, insT, nsort.nins, sg_lt]
    split
    · rw [insT_sg c r]; rfl
    · rfl
theorem tsort_sg : ∀ r : List Nat, tsort (r.map fun c => [c]) = (nsort r).map fun c => [c]
  | [] => rfl
  | c :: r => by
    simp only [List.map_cons, tsort, nsort, tsort_sg r, insT_sg]
theorem nins_perm (c : Nat) : ∀ r, (nsort.nins c r).Perm (c :: r)
  | [] => .refl _
  | b :: r => by
    unfold nsort.nins
    split
    · exact ((nins_perm c r).cons b).trans (.swap _ _ _)
    · exact .refl _
theorem nsort_perm : ∀ r, (nsort r).Perm r
  | [] => .refl _
  | c :: r => (nins_perm c _).trans ((nsort_perm r).cons c)
theorem nsort_id : ∀ {r : List Nat}, r.Pairwise (· < ·) → nsort r = r
  | [], _ => rfl
  | [c], _ => rfl
  | c :: d :: r, h => by
    have h' := List.pairwise_cons.mp h
    rw [nsort, nsort_id h'.2, nsort.nins, if_neg]
    have := h'.1 d (by simp)
    omega
theorem cSortX_str (xs : List Nat) (h : xs.length < 64) : cSortX [.str xs] = some (sgs (nsort xs)) := by
  simp only [cSortX, if_pos h, tsort_sg, sgs, List.map_map]
  rfl
theorem cSortX_sgs (xs : List Nat) (h : xs.length < 64) : cSortX [.lst (sgs xs)] = some (sgs (nsort xs)) := by
  simp only [cSortX, cSortT, sgs, strL_mp fun c : Nat => [c], Option.bind_some, List.length_map, if_pos h, tsort_sg, List.map_map]
  rfl
/-- comprehensions of two -/
theorem lc2F_fp {α : Type} {own own1 : List Nat} {h : D → Rho → Option Rho} {ifs : Bm} {f1 : Im} {h1 : D → Rho → Option Rho} {ifs1 : Bm} {elt : Em} {ρ : Rho} (u : α → D) (g : α → List D) : ∀ {xs : List α},
    (∀ x ∈ xs, ∃ ρ1 ρ2 ds ρ3 ρ4 ρ5, h (u x) ρ = some ρ1 ∧ ifs ρ1 = some (true, ρ2) ∧ f1 ρ2 = some (ds, ρ3) ∧ wipeS own1 ρ3 = some ρ4 ∧ lcF own1 h1 ifs1 elt ds ρ4 = some (g x, ρ5) ∧ wipeS own ρ5 = some ρ) → lc2F own own1 h ifs f1 h1 ifs1 elt (xs.map u) ρ = some (xs.flatMap g, ρ)
  | [], _ => rfl
  | x :: xs, k => by
    obtain ⟨ρ1, ρ2, ds, ρ3, ρ4, ρ5, e1, e2, e3, e4, e5, e6⟩ := k x (by simp)
    have ih := lc2F_fp u g (xs := xs) fun d m => k d (by simp [m])
    simp [lc2F, e1, e2, e3, e4, e5, e6, ih]
theorem rgD_mp (n : Nat) : rgD 0 n = (List.range n).map fun i => D.int (i : Nat) := by
  simp [rgD]
theorem dcF_new {α : Type} {own : List Nat} {h : D → Rho → Option Rho} {ifs : Bm} {ke ve : Em} {ρ : Rho} (u : α → D) (kf : α → DK) (vf : α → D) : ∀ {xs : List α} {acc : List (DK × D)}, xs.Pairwise (fun a b => kf a ≠ kf b) → (∀ p ∈ acc, ∀ x ∈ xs, p.1 ≠ kf x) →
    (∀ x ∈ xs, ∃ ρ1 ρ2 q ρ3 r ρ4 kd, h (u x) ρ = some ρ1 ∧ ifs ρ1 = some (true, ρ2) ∧ ke ρ2 = some (q, ρ3) ∧ ve ρ3 = some (r, ρ4) ∧ rd ρ4 q = some kd ∧ kd.k? = some (kf x) ∧ pu ρ4 r = some (vf x) ∧ wipeS own ρ4 = some ρ) → dcF own h ifs ke ve (xs.map u) acc ρ = some (acc ++ xs.map fun x => (kf x, vf x), ρ)
  | [], acc, _, _, _ => by simp [dcF]
  | x :: xs, acc, nd, n0, k => by
    obtain ⟨ρ1, ρ2, q, ρ3, r, ρ4, kd, e1, e2, e3, e4, e5, e6, e7, e8⟩ := k x (by simp)
    have nd' := List.pairwise_cons.mp nd
    have ep : putD acc (kf x) (vf x) = acc ++ [(kf x, vf x)] := putD_new fun p m => n0 p m x (by simp)
    have ih := dcF_new u kf vf (xs := xs) (acc := acc ++ [(kf x, vf x)]) nd'.2 (fun p m y my => by
      rcases List.mem_append.mp m with m | m
      · exact n0 p m y (by simp [my])
      · have : p = (kf x, vf x) := by simpa using m
        subst this
        exact nd'.1 y my) fun d m => k d (by simp [m])
    simp only [List.map_cons, dcF, e1, e2, e3, e4, e5, e6, e7, e8, ep, ih, Option.bind_some, if_true]
    simp
theorem lookK_mp {α : Type} (kf : α → DK) (vf : α → D) {x : α} : ∀ {xs : List α}, x ∈ xs → (∀ y ∈ xs, kf y = kf x → y = x) → lookK (xs.map fun x => (kf x, vf x)) (kf x) = some (vf x)
  | [], m, _ => nomatch m
  | y :: ys, m, inj => by
    by_cases h : kf y = kf x
    · have := inj y (by simp) h
      subst this
      simp [lookK]
    · have m' : x ∈ ys := by
        rcases List.mem_cons.mp m with e | e
        · exact absurd (by rw [e]) h
        · exact e
      have ih := lookK_mp kf vf m' fun z mz => inj z (by simp [mz])
      unfold lookK at ih ⊢
      rw [List.map_cons, List.find?_cons_of_neg (by simpa using h)]
      exact ih
theorem mem_cutD {α : Type} {xs : List α} {l h : Option Int} {c : α} (m : c ∈ cutD xs l h) : c ∈ xs := List.mem_of_mem_drop (List.mem_of_mem_take m)
theorem argO_zero (ρ : Rho) (i : Nat) (rs : List RV) : argO ρ 0 (.ref i :: rs) = (ρ[i]?.bind Sl.t).bind fun t => if t.root then (pus ρ rs).map fun ds => .pin t :: slP ds else none := rfl
theorem refAt_zero (i : Nat) (rs : List RV) : refAt 0 (.ref i :: rs) = some i := rfl
theorem rdAt_vp (d : D) : rdAt (some (.v (.p d))) = some d := rfl
/-- a list of signs is plain -/
theorem sgs_flat : ∀ {xs : List Nat}, okS xs → D.flats (sgs xs) = true ∧ D.deps (sgs xs) = 0
  | [], _ => ⟨rfl, rfl⟩
  | c :: r, h => by
    have ih := sgs_flat (xs := r) fun d m => h d (by simp [m])
    have hc := h c (by simp)
    constructor
    · show (D.flat (.str [c]) && D.flats (sgs r)) = true
      rw [ih.1]
      simp [D.flat, hc]
    · show max (D.dep (.str [c])) (D.deps (sgs r)) = 0
      rw [ih.2]
      rfl
theorem sgs_ok {xs : List Nat} (h : okS xs) : D.ok (.lst (sgs xs)) = true := by
  have := sgs_flat h
  simp only [D.ok, D.flat, D.dep, this.1, this.2, Bool.true_and]
  exact decide_eq_true (by decide)
theorem cNe_sgs {xs : List Nat} (h : okS xs) : cNe (.lst (sgs xs)) (.lst []) = some (.bl (decide (xs ≠ []))) := by
  unfold cNe
  rw [sgs_ok h]
  have e : D.ok (.lst []) = true := by decide
  rw [e]
  cases xs with
  | nil => rfl
  | cons c r => rfl
theorem sgs_app (xs ys : List Nat) : sgs xs ++ sgs ys = sgs (xs ++ ys) := by simp [sgs]
theorem sgs_erase (i : Nat) (xs : List Nat) : (sgs xs).eraseIdx i = sgs (xs.eraseIdx i) := by simp [sgs, List.eraseIdx_eq_take_drop_succ, List.map_take, List.map_drop]
theorem sgs_get {xs : List Nat} {i : Nat} (h : i < xs.length) : (sgs xs)[i]? = some (.str [xs[i]]) := by simp [sgs, h]
theorem cutD_sgs (xs : List Nat) (l h : Option Int) : cutD (sgs xs) l h = sgs (cutD xs l h) := cutD_map _ xs l h
/-- the only one -/
theorem only_one {p : Nat → Bool} {n i : Nat} (hi : i < n) (hp : p i = true) (hu : ∀ j, j < n → p j = true → j = i) : (List.range n).filter p = [i] := by
  refine lt_uniq (List.Pairwise.filter _ List.pairwise_lt_range) (List.pairwise_singleton _ _) fun x => ?_
  rw [List.mem_filter, List.mem_range, List.mem_singleton]
  exact ⟨fun h => hu x h.1 h.2, fun h => by subst h; exact ⟨hi, hp⟩⟩
end G

set_option maxHeartbeats 2000000
/-! La39: sorted(a dict, key=lambda ..) at the model: the lambda's turns, the keys' loop. -/
namespace G
open PySem PySem.Spec L2 LamX NdefX PyProof.Rows
section
variable {X : Cx} {pins : List (Addr × Obj)} {σ : L2.St} {H : Hp} {s t : Shared}
theorem far (I : Inv X pins σ H s) {b : Addr} (hb : s.heap.objs.size ≤ b) : b ∉ frs X.stack := fun z => by
  cases I.stkSub b z with
  | head => exact absurd (Nat.lt_of_lt_of_le I.lt hb) (Nat.lt_irrefl _)
  | tail _ m => exact I.nofs hb m
/-- what stands aside of all that is told stays -/
def Aside (X : Cx) (H H' : Hp) (h h' : Heap) : Prop := ∀ b o, h.get? b = some o → H b = none → b ∉ frs X.stack → h'.get? b = some o ∧ H' b = none
abbrev lamF (qual : Str) (params : Arguments) (scope : Scope) (cl : List (Str × Addr)) (c' : Addr) : NF := ⟨"<lambda>", qual, params, [], scope, cl, c'⟩
/-- one turn of a lambda with one parameter -/
theorem lam_turn {A : Around} {N fr : List Str} {a qual : Str} {params : Arguments} {body : Expr} {scope : Scope} {cl : List (Str × Addr)} {c' f : Addr} {pm ctv v : Value} {x : V} {ws : List (Option V)} {k : Nat} {tb : TE} {Q : VK} {E : Value → Shared → Prop}
    (I : Inv X pins σ H s) (S : NScope N [a] fr scope) (hr : Room (k + 1) A) (e0 : Env0 X.prog X.w X.K X.mg X.base A X.stack s H)
    (hf : s.heap.get? f = some (PySem.W.kla_obj "<lambda>" qual params body scope cl pm c' ctv)) (hc : H c' = some (CodeO c' qual))
    (hb : ∀ u : Value, bindArgs (PySem.W.kla_fn "<lambda>" qual params body scope cl pm (.ref c') ctv) ⟨[u], []⟩ = pure [(a, u)])
    (C : CellsAt cl fr ws s.heap H) (rv : RelV x v)
    (hbody : ∀ (outer : List Env) (s : Shared) (H : Hp), Room k (A.deeper (envF (lamF qual params scope cl c') f s.heap.objs.size)) → PE (ncx CX0 X.prog X.w X.K X.mg X.base N (lamF qual params scope cl c') f A outer s H E0) body tb) (hq : tb (startF N [x] ws) H Q) :
    wpAny (model X.prog X.w) A (call (.ref f) [v]) (fun u s' => ∃ y H', Inv X pins σ H' s' ∧ RelV y u ∧ Q y H' ∧ Aside X H H' s.heap s'.heap) E s := by
  obtain ⟨⟨oc, vs, tt, hoc, hdc, hvc⟩, _, _⟩ := I.hok c' _ hc
  have fin : codeAny (model X.prog X.w) A (.call (.ref f) ⟨[v], []⟩) (CR CX0 X.stack X.prog X.w H s Q E0) s := by
    refine PySem.W.kla_callFunE hr.depth hf rfl S.co S.gen rfl ⟨c', oc, vs, tt, rfl, hoc, hdc, hvc⟩ ?_
    rw [hb v]
    refine wpAny_pure (wpAny_newFunctionEnv S.nocell (fun y hy => ?_) (fun h1 hns hsb => ⟨I.nolimit.fresh _ hsb, ?_⟩) S.kind)
    · obtain rfl : y = (a, v) := by simpa using hy
      exact S.par a (by simp)
    have up : ∀ b o, s.heap.get? b = some o → h1.get? b = some o := fun b o e => hsb.extBut b o (Nat.ne_of_lt (Heap.lt_size e)) (Heap.get?_push_of_some _ e)
    have J := inv_startN (CX := CX0) (N := N) (ps := [a]) (fr := fr) (F := lamF qual params scope cl c') (f := f) (E := E0) (us := [v]) (vs := [x]) (ws := ws) (h₁ := h1) (tk := s.toks + [(a, v)].length) S hr.hd e0 rfl (.cons rv .nil) C hns up
    refine PySem.W.kla_codeExpr (wpAny_mono ((hbody X.stack s H (hr.deeper _)).run [] _ _ H Q J hq) (fun u s' z => ?_) fun _ _ z => z)
    obtain ⟨y, H', J', ry, q⟩ := z
    exact ⟨y, H', J'.os, J'.bare, J'.base, J'.hok, ry, q⟩
  refine wpAny_call (codeAny_mono fin fun r s' z => ?_)
  cases r with
  | error e => exact False.elim z
  | ok fl =>
    cases fl with
    | ret u =>
      obtain ⟨y, H', os, bare, un, hok, ry, q⟩ := z
      obtain ⟨hh, g, d, tk, os'⟩ := s'
      obtain rfl : os' = s.os := os
      exact ⟨y, H', I.call (h' := hh) (g' := g) (d' := d) (t' := tk) (ch := []) un hok bare (fun b z => nomatch z), ry, q, fun b o e n m => ⟨un.keep b o e n m (by simp), un.free b o e n (by simp)⟩⟩
    | next => exact False.elim z
    | brk => exact False.elim z
    | cont => exact False.elim z
end
end G

set_option maxHeartbeats 2000000
/-! La40: xs.sort(key=f) where f's turns may do what they like as long as what is told holds. -/
namespace G
open PySem PySem.Spec L2 LamX NdefX PyProof.Rows
section
variable {X : Cx} {pins : List (Addr × Obj)} {σ : L2.St} {H : Hp} {s t : Shared}
/-- what the keys' loop knows -/
structure Lp (X : Cx) (pins : List (Addr × Obj)) (σ : L2.St) (f kS a : Addr) (fo : Obj) (e1 : Nat) (Rr : Hp → Prop) (ns : List Int) (H' : Hp) (t : Shared) (kA : Array Value) (e : Nat) : Prop where
  inv : Inv X pins σ H' t
  r : Rr H'
  nk : H' kS = none
  na : H' a = none
  nf : H' f = none
  ok : t.heap.get? kS = some (seqObj "list" kA e)
  oa : t.heap.get? a = some (seqObj "list" #[] e1)
  of : t.heap.get? f = some fo
  ks : IntsAre kA.toList ns
/-- an address of ours that nobody knows -/
structure Own (X : Cx) (pins : List (Addr × Obj)) (b : Addr) : Prop where
  loc : b ≠ X.env.locals
  fs : b ∉ X.fs
  new : X.s_0.heap.objs.size ≤ b
  cell : ∀ x c, X.env.cells.lookup x = some c → c ≠ b
  pin : ∀ p ∈ X.pn ++ pins, p.1 ≠ b
  far : b ∉ frs X.stack
theorem own_of (I : Inv X pins σ H s) {b : Addr} (hb : s.heap.objs.size ≤ b) : Own X pins b := by
  obtain ⟨_, h2, h3, h4, h5, h6⟩ := I.fpOk (H' := fun _ => none) hb rfl
  exact ⟨h2, h3, Nat.le_trans I.sz hb, h5, h6, G.far I hb⟩
theorem ints_snoc {k : Int} {u : Tok} : ∀ {vs : List Value} {ns : List Int}, IntsAre vs ns → IntsAre (vs ++ [.int k u]) (ns ++ [k])
  | _, _, .nil => .cons k u .nil
  | _, _, .cons n t h => .cons n t (ints_snoc h)
theorem ints_each {h : Heap} : ∀ {vs : List Value} {ns : List Int}, IntsAre vs ns → PySem.W.EachIs (fun v k => ∃ as, Reads h v k as) vs (ns.map PyData.int)
  | _, _, .nil => .nil
  | _, _, .cons n t r => .cons ⟨[], .int n t⟩ (ints_each r)
theorem ints_len : ∀ {vs : List Value} {ns : List Int}, IntsAre vs ns → vs.length = ns.length
  | _, _, .nil => rfl
  | _, _, .cons _ _ r => by simp [ints_len r]
theorem ints_alike (ns : List Int) : PySem.W.AllAlike (ns.map PyData.int) := fun d hd d' hd' => by
  obtain ⟨x, _, rfl⟩ := List.mem_map.mp hd
  obtain ⟨y, _, rfl⟩ := List.mem_map.mp hd'
  rfl
theorem ints_sortable (ns : List Int) : PySem.W.Sortable (ns.map PyData.int) := .inr fun d hd => by
  obtain ⟨x, _, rfl⟩ := List.mem_map.mp hd
  exact ⟨fun z => (nomatch z), fun xs z => (nomatch z)⟩
theorem each_pairs {xs : List V} {vs : List Value} : ∀ {ns : List Int}, Vals xs vs → ns.length = xs.length → PySem.W.EachIs (fun v (b : V × Int) => RelV b.1 v) vs (xs.zip ns)
  | [], .nil, _ => .nil
  | n :: ns, .cons r rs, h => .cons r (each_pairs rs (by simpa using h))
theorem each_vals : ∀ {bs : List (V × Int)} {vs : List Value}, PySem.W.EachIs (fun v (b : V × Int) => RelV b.1 v) vs bs → Vals (bs.map (·.1)) vs
  | _, _, .nil => .nil
  | _, _, .cons r rs => .cons r (each_vals rs)
/-- the sorted ones, by their keys, those alike as they came -/
def bykey {α : Type} (xs : List (α × Int)) : List α := (xs.mergeSort fun a b => decide (a.2 ≤ b.2)).map (·.1)
/-- the loop over the keys, and what sorts by them -/
theorem key_rest {A : Around} {f kS a : Addr} {fo : Obj} {e1 : Nat} {Rr : Hp → Prop} {ns : List Int} {xs : List V} {vs : List Value} {kA : Array Value} {e : Nat} {R : PySem.Fin → Shared → Prop} {E : Value → Shared → Prop} {HS : Hp}
    (L : Lp X pins σ f kS a fo e1 Rr [] HS t #[] e) (ok : Own X pins kS) (oa : Own X pins a) (ff : f ∉ frs X.stack) (hka : kS ≠ a) (hfk : f ≠ kS) (rv : Vals xs vs) (hl : ns.length = xs.length) (hz : vs.length ≤ sizeLine) (hu : A.units < cLine)
    (turn : ∀ (i : Nat) (x : V) (k : Int) (v : Value) (t : Shared) (H' : Hp), xs[i]? = some x → ns[i]? = some k → RelV x v → Rr H' → Inv X pins σ H' t → t.heap.get? f = some fo → H' f = none →
      wpAny (model X.prog X.w) A (call (.ref f) [v]) (fun u t' => ∃ y H'', Inv X pins σ H'' t' ∧ RelV y u ∧ (y = .int k ∧ Rr H'') ∧ Aside X H' H'' t.heap t'.heap) (fun _ _ => False) t)
    (fin : ∀ (H' : Hp) (t' : Shared) (ys : List V), Rr H' → H' a = none → ys = bykey (xs.zip ns) → Inv X pins σ (upd H' a (.lst ys)) t' → R (.done (.ret .none)) t') :
    wpAny (model X.prog X.w) A (ksk_rest a (.ref f) false vs.toArray e1 (.ref kS)) R E t := by
  have hvl : xs.length = vs.length := rv.length
  unfold ksk_rest
  refine wpAny_bind (wpAny_rule (wpAny_bind ?_))
  have hfor : ∀ body : Value → PUnit → Sem (ForInStep PUnit), (forIn vs.toArray PUnit.unit body : Sem PUnit) = forIn vs PUnit.unit body := fun body => by
    first
      | exact List.forIn_toArray
      | (rw [List.forIn_toArray])
      | (rw [← Array.forIn_toList])
  rw [hfor]
  refine ksk_fold (fun i s' => ∃ H' kB e', Lp X pins σ f kS a fo e1 Rr (ns.take i) H' s' kB e') vs 0 t ⟨HS, #[], e, by rw [List.take_zero]; exact L⟩ (fun j v t1 hj ⟨H1, kB, e', L1⟩ => ?_) fun t1 ⟨H1, kB, e', L1⟩ => ?_
  · have hjl : j < vs.length := (List.getElem?_eq_some_iff.mp hj).1
    obtain ⟨k, hk⟩ : ∃ k, ns[j]? = some k := ⟨_, List.getElem?_eq_getElem (by omega)⟩
    obtain ⟨x, hx⟩ : ∃ x, xs[j]? = some x := ⟨_, List.getElem?_eq_getElem (by omega)⟩
    obtain ⟨v', ev, rxv⟩ := rv.get hx
    rw [hj] at ev
    obtain rfl : v = v' := Option.some.inj ev
    rw [Nat.zero_add] at L1 ⊢
    refine wpAny_bind (wpAny_attempt (wpAny_mono (turn j x k v t1 H1 hx hk rxv L1.r L1.inv L1.of L1.nf) (fun u t2 ⟨y, H2, I2, ry, ⟨ey, r2⟩, asd⟩ => ?_) fun _ _ z => z.elim))
    subst ey
    obtain ⟨tk, rfl⟩ := ry
    obtain ⟨k2, nk2⟩ := asd kS _ L1.ok L1.nk ok.far
    obtain ⟨a2, na2⟩ := asd a _ L1.oa L1.na oa.far
    obtain ⟨f2, nf2⟩ := asd f _ L1.of L1.nf ff
    have hsz : kB.size = j := by
      have := ints_len L1.ks
      rw [Array.length_toList, List.length_take] at this
      omega
    obtain ⟨c2, hc2⟩ : ∃ c2, (t2.heap.update kS (Obj.mapSeq (·.push (.int k tk)))).get? kS = some (seqObj "list" (kB.push (.int k tk)) c2) := ⟨_, get?_update_seq k2 (·.push (.int k tk))⟩
    have oth : ∀ b, b ≠ kS → (t2.heap.update kS (Obj.mapSeq (·.push (.int k tk)))).get? b = t2.heap.get? b := fun b hb => Heap.get?_update_other _ _ (Ne.symm hb)
    refine wpAny_bind (listUpdate_at k2 rfl (wpAny_pure ⟨rfl, H2, kB.push (.int k tk), c2, ?_⟩) (by rw [hsz]; omega) (by rw [Array.size_push, hsz]; omega))
    refine ⟨I2.turned (t' := t2.toks) (fun b o hb q => by rw [oth b hb]; exact q) nk2 ok.loc (.inr ok.new) ok.cell ok.pin, r2, nk2, na2, nf2, hc2, by rw [oth a (Ne.symm hka)]; exact a2, ?_, ?_⟩
    · rw [oth f hfk]; exact f2
    · rw [List.take_add_one, hk, Array.toList_push]
      exact ints_snoc L1.ks
  · have hfull : ns.take (0 + vs.length) = ns := List.take_of_length_le (by omega)
    rw [hfull] at L1
    have hsz : kB.toList.length = vs.length := by rw [ints_len L1.ks]; omega
    have hb : kB.size = vs.length := by rw [← hsz, Array.length_toList]
    let hid := PySem.W.hideAll t1.heap [kS]
    refine wpAny_bind (listItems_at L1.ok rfl (PySem.W.keyH_end (κ := PySem.W.dataKind t1.heap (ns.map PyData.int)) (h₁ := hid) (fun b o hne q => PySem.W.of_hideAll _ q) (PySem.W.hideAll_none _ (by simp)) L1.ok L1.oa hka
      (PySem.W.SortsAt.data (s := t1) (ints_each L1.ks) (ints_alike ns) (ints_sortable ns) (fun d hd => by
        obtain ⟨x, _, rfl⟩ := List.mem_map.mp hd
        exact hu)) hb hz fun h2 tk c kp hD => ?_))
    have outE := PySem.W.keyedOut_each (rev := false) (R := fun v (b : V × Int) => RelV b.1 v) (bs := xs.zip ns) (vs := vs) (out := PySem.W.sortVals (PySem.W.dataKind t1.heap (ns.map PyData.int)) false kB.toList vs) (fun b => .int b.2)
      ⟨t1.heap, kB.toList, by
        have e : (xs.zip ns).map (fun b : V × Int => PyData.int b.2) = ns.map PyData.int := by
          have := List.map_snd_zip (l₁ := xs) (l₂ := ns) (by omega)
          rw [← this, List.map_map, this]
          rfl
        rw [e]
        exact ⟨ints_alike ns, rfl, ints_each L1.ks⟩⟩ (each_pairs rv hl)
    rw [PySem.W.dataLe_int fun b : V × Int => b.2] at outE
    have outV := each_vals outE
    let hm := h2.update a (fun _ => seqObj "list" #[] e1)
    have hm_a : hm.get? a = some (seqObj "list" #[] e1) := Heap.get?_update_self _ hD rfl
    have hm_o : ∀ b, b ≠ a → hm.get? b = h2.get? b := fun b hb => Heap.get?_update_other _ _ (Ne.symm hb)
    have I1 : Inv X pins σ H1 { t1 with heap := hm, toks := tk } := L1.inv.turned (fun b o hb q => by
      by_cases z : b = a
      · rw [z] at q ⊢
        rw [hm_a, ← q, L1.oa]
      · rw [hm_o b z]
        exact kp b o z (PySem.W.hideAll_get _ q (by simpa using hb))) L1.nk ok.loc (.inr ok.new) ok.cell ok.pin
    have hlen : (bykey (xs.zip ns)).length ≤ sizeLine := by
      show ((_ : List (V × Int)).map _).length ≤ _
      rw [List.length_map, List.length_mergeSort, List.length_zip]
      omega
    have I2 : Inv X pins σ (upd H1 a (.lst (bykey (xs.zip ns)))) { t1 with heap := h2, toks := tk } := I1.take (t' := tk) (h' := h2) (fun b o hb q => by rw [← hm_o b hb]; exact q) ⟨L1.na, oa.loc, oa.fs, .inr oa.new, oa.cell, oa.pin⟩
      ⟨hlen, _, c, outV, hD⟩
    exact fin H1 _ _ L1.r L1.na rfl I2
end
end G

set_option maxHeartbeats 2000000
/-! La41: sorted(a dict, key=f). -/
namespace G
open PySem PySem.Spec L2 LamX NdefX PyProof.Rows
section
variable {X : Cx} {pins : List (Addr × Obj)} {σ : L2.St} {H : Hp} {s t : Shared}
theorem call_sortK {d f : Addr} {fo : Obj} {kvs : List (Key × V)} {ns : List Int} {Rr : Hp → Prop} {Q : VK} {E : Value → Shared → Prop} (hcalm : X.calm = true) (I : Inv X pins σ H s) (hd : Rd H d (.dK kvs)) (hn : kvs.length ≤ 1000000) (hf : s.heap.get? f = some fo) (nf : H f = none) (ff : f ∉ frs X.stack)
    (hl : ns.length = kvs.length) (r0 : Rr H) (hu : X.A.units + 2 < cLine)
    (turn : ∀ (i : Nat) (x : V) (k : Int) (v : Value) (t : Shared) (H' : Hp), (kvs.map fun q => kV q.1)[i]? = some x → ns[i]? = some k → RelV x v → Rr H' → Inv X pins σ H' t → t.heap.get? f = some fo → H' f = none →
      wpAny (model X.prog X.w) X.A.in1.in1 (call (.ref f) [v]) (fun u t' => ∃ y H'', Inv X pins σ H'' t' ∧ RelV y u ∧ (y = .int k ∧ Rr H'') ∧ Aside X H' H'' t.heap t'.heap) (fun _ _ => False) t)
    (fin : ∀ (H' : Hp) (p : Addr), Rr H' → H' p = none → Q (.ref p) (upd H' p (.lst (bykey ((kvs.map fun q => kV q.1).zip ns))))) :
    wpAny (model X.prog X.w) X.A (call (.builtin "sorted") [.ref d] [(Str.ofString "key", .ref f)]) (EP X pins σ Q) E s := by
  obtain ⟨z, lo, vs, rel, dd⟩ := dk_rd I.hok hd
  obtain ⟨ep, hat⟩ := dd.dictAt
  have hlen : kvs.length = vs.length := rel.length
  have h16 : vs.length ≤ sizeLine := by rw [sizeLine_eq]; omega
  have ek : kvs.map (fun q => kV q.1) = vs.map fun q => kV q.1 := by
    have e := congrArg (List.map kV) rel.keys
    rw [List.map_map, List.map_map] at e
    exact e
  refine PyProof.Rows.call_function_entry_kw kind_sorted plain_sorted entry_sorted (ksk_s1 _ _) ?_
  unfold Builtin.«sorted»
  refine wpAny_bind (m := checkCount "sorted" 1 1 _) (wpAny_pure (wpAny_bind (PySem.W.kdu_collect (A := X.A.in1) (PySem.W.kdl_dict (knd := mixKind X.prog X.w) (kvs := vs) (ep := ep) lo) (I.ok.hd hcalm) hat h16 fun h1 tk acc hk hacc => ?_)))
  have hv : Vals (kvs.map fun q => kV q.1) acc.toList := by
    rw [ek]
    exact keys_at (by rw [Array.length_toList]; exact hacc.1) fun j v e => hacc.2 j v (by rw [← Array.getElem?_toList]; exact e)
  have hal : acc.toList.length = kvs.length := by have := hv.length; rw [List.length_map] at this; exact this.symm
  have hz : acc.toList.length ≤ sizeLine := by rw [hal, hlen]; exact h16
  refine wpAny_bind (wpAny_newList ?_ hz)
  have hoL : (h1.push (seqObj "list" acc.toList.toArray 0)).get? h1.objs.size = some (seqObj "list" acc.toList.toArray 0) := Heap.get?_push_size _ rfl
  refine wpAny_bind (wpAny_holding (PyProof.Rows.wpAny_call_entry_kw slot_list_sort ⟨_, hoL, rfl⟩ entry_list_sort ?_ (ksk_l1 _ _)))
  rw [ksk_t1]
  unfold ksk_tree
  generalize hA : h1.objs.size = a at hoL ⊢
  obtain ⟨e1, ho1⟩ : ∃ e1, ((h1.push (seqObj "list" acc.toList.toArray 0)).update a (Obj.mapSeq fun _ => (#[] : Array Value))).get? a = some (seqObj "list" #[] e1) := ⟨_, get?_update_seq hoL fun _ => #[]⟩
  have k1 : ∀ b o, s.heap.get? b = some o → ((h1.push (seqObj "list" acc.toList.toArray 0)).update a (Obj.mapSeq fun _ => (#[] : Array Value))).get? b = some o := fun b o q => by
    have q1 := hk b o q
    have lt := Heap.lt_size q1
    rw [Heap.get?_update_other _ _ (show a ≠ b from fun z => by rw [← z, ← hA] at lt; exact Nat.lt_irrefl _ lt)]
    exact Heap.get?_push_of_some _ q1
  refine wpAny_bind (listItems_at hoL rfl (wpAny_bind (listUpdate_at hoL rfl (wpAny_bind (seqEpoch_at ho1 rfl (wpAny_bind (wpAny_newTuple (wpAny_bind (wpAny_newList (wpAny_holding ?_) (Nat.zero_le _))) ?_)))) (by rw [List.size_toArray]; exact hz) (Nat.zero_le _))))
  rotate_left
  · rw [List.toList_toArray]; exact hz
  have I1 : Inv X pins σ H { s with heap := h1, toks := tk } := I.kept hk
  have oa : Own X pins a := own_of I1 (Nat.le_of_eq hA)
  have na : H a = none := I1.hok.fresh (Nat.le_of_eq hA)
  have goalE : ∀ (g3 g4 : Heap) (R : PySem.Fin → Shared → Prop) (E' : Value → Shared → Prop), g3.get? a = some (seqObj "list" #[] e1) → (∀ b o, s.heap.get? b = some o → g3.get? b = some o) → (∀ b o, g3.get? b = some o → g4.get? b = some o) →
      (∀ (H' : Hp) (t' : Shared), Rr H' → H' a = none → Inv X pins σ (upd H' a (.lst (bykey ((kvs.map fun q => kV q.1).zip ns)))) t' → R (.done (.ret .none)) t') →
      wpAny (model X.prog X.w) X.A.in1.in1 (ksk_rest a (.ref f) false acc.toList.toArray e1 (.ref g4.objs.size)) R E' { s with heap := g4.push (seqObj "list" #[] 0), toks := tk } := fun g3 g4 R E' ho1 k1 k4 hR => by
    have I3 : Inv X pins σ H { s with heap := g4, toks := tk } := I.kept fun b o q => k4 b o (k1 b o q)
    have ok : Own X pins g4.objs.size := own_of I3 (Nat.le_refl _)
    have nk : H g4.objs.size = none := I3.hok.fresh (Nat.le_refl _)
    have k5 : ∀ b o, g3.get? b = some o → (g4.push (seqObj "list" #[] 0)).get? b = some o := fun b o q => Heap.get?_push_of_some _ (k4 b o q)
    have I5 : Inv X pins σ H { s with heap := g4.push (seqObj "list" #[] 0), toks := tk } := I.kept fun b o q => k5 b o (k1 b o q)
    have hka : g4.objs.size ≠ a := fun z => by
      have := Heap.lt_size (k4 a _ ho1)
      rw [z] at this
      exact Nat.lt_irrefl _ this
    have hfk : f ≠ g4.objs.size := fun z => by
      have := Heap.lt_size (k4 f _ (k1 f _ hf))
      rw [z] at this
      exact Nat.lt_irrefl _ this
    exact key_rest (xs := kvs.map fun q => kV q.1) (fo := fo) (Rr := Rr) (ns := ns) (kA := #[]) (e := 0) (HS := H) ⟨I5, r0, nk, na, nf, Heap.get?_push_size _ rfl, k5 a _ ho1, k5 f _ (k1 f _ hf), .nil⟩ ok oa ff hka hfk hv (by rw [List.length_map]; exact hl) hz hu turn
      fun H' t' ys r1 n1 e I' => hR H' t' r1 n1 (by rw [← e]; exact I')
  exact goalE _ _ _ _ ho1 k1 (fun b o q => Heap.get?_push_of_some _ q) fun H' t' r1 n1 I' => ⟨_, rfl, wpAny_pure ⟨_, rfl, V.ref a, _, I', rfl, fin H' a r1 n1⟩⟩
end
end G

set_option maxHeartbeats 2000000
/-! La42: sorted(a dict, key=lambda x: ..) as a mirror. -/
namespace G
open PySem PySem.Spec L2 LamX NdefX PyProof.Rows
open PyProof.Rows (envOfC)
/-- what the captured names hold: values that stand -/
def capS (ρ : Rho) : List Nat → Option (List D)
  | [] => some []
  | j :: js => match ρ[j]? with
    | some (.v (.p d)) => (capS ρ js).map fun ds => d :: ds
    | _ => none
/-- the keys by the lambda's mirror -/
def keyN (m : Em) (cs : List D) : List D → Option (List Int)
  | [] => some []
  | d :: ds => (m (slP (d :: cs))).bind fun p => match p.1 with
    | .val (.int n) => (keyN m cs ds).map fun ns => n :: ns
    | _ => none
def nSortK (i : Nat) (js : List Nat) (m : Em) : Rho → Option (T × Rho) := fun ρ => (dicS i ρ).bind fun p => if p.1.length ≤ big then (capS p.2 js).bind fun cs => (keyN m cs (keysD p.1)).map fun ns => (.ls (bykey ((keysD p.1).zip ns)), p.2) else none
theorem keyN_at {m : Em} {cs : List D} : ∀ {ds : List D} {ns : List Int}, keyN m cs ds = some ns → ns.length = ds.length ∧ ∀ (i : Nat) (d : D) (k : Int), ds[i]? = some d → ns[i]? = some k → ∃ ρ', m (slP (d :: cs)) = some (.val (.int k), ρ')
  | [], ns, e => by cases e; exact ⟨rfl, fun i d k h => by simp at h⟩
  | d :: ds, ns, e => by
    simp only [keyN, Option.bind_eq_some_iff] at e
    obtain ⟨⟨r, ρ'⟩, e1, e2⟩ := e
    dsimp only at e2
    split at e2
    · rename_i n
      rw [Option.map_eq_some_iff] at e2
      obtain ⟨ns', e3, rfl⟩ := e2
      obtain ⟨h1, h2⟩ := keyN_at e3
      refine ⟨by simp [h1], fun i d' k hd hk => ?_⟩
      cases i with
      | zero => cases hd; cases hk; exact ⟨ρ', e1⟩
      | succ i => exact h2 i d' k (by simpa using hd) (by simpa using hk)
    · cases e2
theorem bykey_map {α β : Type} (f : α → β) (xs : List (α × Int)) : bykey (xs.map fun p => (f p.1, p.2)) = (bykey xs).map f := by
  unfold bykey
  rw [← List.map_mergeSort (r := fun a b : α × Int => decide (a.2 ≤ b.2)) (f := fun p : α × Int => (f p.1, p.2)) (fun a _ b _ => rfl), List.map_map, List.map_map]
  rfl
section
variable {K : PySem.W.Frag} {cm : Cm} {A A' : AS} {H H' : Hp} {C : Fc} {σ : L2.St} {ρ : Rho}
theorem capS_ok (R : RS K cm C A [] σ H ρ) : ∀ {js : List Nat} {cs : List D}, capS ρ js = some cs → ∃ vs : List V, js.map (slotAt σ) = vs.map some ∧ RpL K cm A H vs cs
  | [], cs, e => by cases e; exact ⟨[], rfl, .nil⟩
  | j :: js, cs, e => by
    unfold capS at e
    split at e
    · rename_i d q
      rw [Option.map_eq_some_iff] at e
      obtain ⟨ds, e1, rfl⟩ := e
      obtain ⟨vs, h1, h2⟩ := capS_ok R e1
      obtain ⟨F, _, _, _, _, h5⟩ := R.sl
      obtain ⟨o, e2, v, rfl, rt, _⟩ := h5 j _ q
      refine ⟨v :: vs, ?_, .cons rt.2 h2⟩
      rw [List.map_cons, List.map_cons, h1, slotAt_of e2]
    · cases e
/-- the tables have grown, a code object came -/
theorem RS.extN (R : RS K cm C A [] σ H ρ) (e : ExtN H H') (dm : ∀ a, H a ≠ none → H' a ≠ none) (nx : ∀ a φ, A a → H' a ≠ some (.ext φ)) (t : Tabs cm.T H') : Lt C A H A H' ∧ RS K cm C A [] σ H' ρ := by
  have l : Later A H A H' := ⟨fun a o q n _ => e a o q n, fun _ z => .inl z, dm⟩
  obtain ⟨F, h1, h2, h3, h4, h5⟩ := R.sl
  refine ⟨⟨l, fun a o _ q n => e a o q n⟩, R.len, ⟨F, h1, h2, h3, h4, fun i s q => ?_⟩, R.out, R.sub, fun a z => dm a (R.dom a z), fun a o q n np => e a o (R.fr a o q n np) n, fun a z => dm a (R.fd a z), t, fun a z φ => nx a φ z⟩
  obtain ⟨o, e1, r⟩ := h5 i s q
  exact ⟨o, e1, r.keep l fun a _ o q n => e a o q n⟩
end
section
variable {X : Cx} {pins : List (Addr × Obj)} {σ : L2.St} {H : Hp} {s : Shared}
/-- what a lambda's making leaves: the same heap, or one more code object in the table -/
def Made (H H1 : Hp) (q : Str) : Prop := H1 = H ∨ ∃ P ps more c', H P = some (.tbl ps) ∧ H c' = none ∧ H1 = upd (upd H P (.tbl (ps ++ more))) c' (CodeO c' q)
theorem Made.ext {H1 : Hp} {q : Str} (m : Made H H1 q) : ExtN H H1 ∧ (∀ a, H a ≠ none → H1 a ≠ none) ∧ ∀ a φ, H a ≠ none → (∀ φ, H a ≠ some (.ext φ)) → H1 a ≠ some (.ext φ) := by
  rcases m with rfl | ⟨P, ps, more, c', hP, hc, rfl⟩
  · exact ⟨ExtN.refl _, fun _ z => z, fun a φ _ z => z φ⟩
  · refine ⟨fun b o e n => ?_, fun b e => ?_, fun b φ e z q2 => ?_⟩
    · rw [upd_ne (ne_of_none e hc), upd_ne (fun w => n ps (Option.some.inj ((show H b = some o from e).symm.trans (by rw [w]; exact hP))))]; exact e
    · by_cases w : b = c'
      · exact absurd (by rw [w]; exact hc) e
      · rw [upd_ne w]
        by_cases w2 : b = P
        · rw [w2, upd_same]; exact fun z => nomatch z
        · rw [upd_ne w2]; exact e
    · by_cases w : b = c'
      · exact e (by rw [w]; exact hc)
      · rw [upd_ne w] at q2
        by_cases w2 : b = P
        · rw [w2, upd_same] at q2; cases q2
        · rw [upd_ne w2] at q2; exact z φ q2
theorem lam_make3 {T : List (Addr × Str)} {c P : Addr} {params : Arguments} {body : Expr} {scope : Scope} {pos : Pos} {E : Value → Shared → Prop} {Q : Value → Shared → Prop} (J : Inv X pins σ H s) (B : TabB X.base X.mg c P) (ec : X.env.code = .ref c)
    (hin : (P, X.env.qual ++ "<lambda>") ∈ T) (huq : ∀ p ∈ T, p.1 = P → p.2 = X.env.qual ++ "<lambda>") (tb : Tabs T H) (nod : defaultsOf params X.env = ([], [])) (cap : ∀ y ∈ scope.names, y.2 = .free → ∃ c, X.env.cells.lookup y.1 = some c)
    (k : ∀ (f c' : Addr) (pm ctv : Value) (H1 : Hp) (s' : Shared), Inv X pins σ H1 s' → Made H H1 (X.env.qual ++ "<lambda>") → Tabs T H1 → H1 c' = some (CodeO c' (X.env.qual ++ "<lambda>")) → H1 f = none → f ∉ frs X.stack →
      s'.heap.get? f = some (PySem.W.kla_obj "<lambda>" (X.env.qual ++ "<lambda>") params body scope (cloFrom X.env.cells scope.names []) pm c' ctv) → Q (.ref f) s') :
    wpAny (model X.prog X.w) X.A (eval (.Lambda params body scope pos) X.env) Q E s := by
  obtain ⟨tab, atP, tri, known⟩ := tb _ hin
  have bi : s.heap.BuiltinsAt X.mg P := B.bm.keeps J.bk
  have oP : s.heap.get? P = some { cls := .none, data := .fields tab } := J.hok P _ atP
  have fresh : ∀ f, s.heap.objs.size ≤ f → f ∉ frs X.stack := fun f z => G.far J z
  refine PySem.W.kla_eval nod ?_
  generalize hca : codeAmong pos tab.toList = oc
  cases oc with
  | some cv =>
    obtain ⟨c', rfl, there⟩ := known pos cv hca
    refine PySem.W.kla_makeFunctionHit (mg := X.mg) (c := c) (P := P) (ps := tab) (closure_ok cap) J.ok.glob (J.mod.glob.keeps J.bk) ec (B.code.keeps J.bk) oP tri hca bi fun ctv g tk up sz => ?_
    exact k g.objs.size c' ((X.mg "__name__").getD .none) ctv H _ (J.kept (t' := tk) fun b o e => Heap.get?_push_of_some _ (up b o e)) (.inl rfl) tb there (J.hok.fresh sz) (fresh _ sz) (Heap.get?_push_size _ rfl)
  | none =>
    refine PySem.W.kla_makeFunction (mg := X.mg) (c := c) (P := P) (ps := tab) (closure_ok cap) J.ok.glob (J.mod.glob.keeps J.bk) ec (B.code.keeps J.bk) oP tri hca B.gP bi fun c' ctv g tk up ge lt rec new => ?_
    obtain ⟨c2, ob, vs, t, e2, ho, hd, hv⟩ := rec
    cases e2
    have sz : s.heap.objs.size ≤ g.objs.size := Nat.le_of_lt (Nat.lt_of_le_of_lt ge lt)
    have hn : H c' = none := J.hok.fresh ge
    have md : Made H (upd (upd H P (.tbl (tab ++ #[rawInt pos.line, rawInt pos.col, .ref c']))) c' (CodeO c' (X.env.qual ++ "<lambda>"))) (X.env.qual ++ "<lambda>") := .inr ⟨P, tab, _, c', atP, hn, rfl⟩
    have J1 := inv_table (t' := tk) (more := #[rawInt pos.line, rawInt pos.col, .ref c']) (h' := g.push (PySem.W.kla_obj "<lambda>" (X.env.qual ++ "<lambda>") params body scope (cloFrom X.env.cells scope.names []) ((X.mg "__name__").getD .none) c' ctv)) J atP (fun b o hb e => Heap.get?_push_of_some _ (up b o hb e)) (Heap.get?_push_of_some _ new) ge ⟨ob, vs, t, Heap.get?_push_of_some _ ho, hd, hv⟩
    have nf : g.objs.size ∉ frs X.stack := fresh _ sz
    have ex := md.ext.1
    have app : (tab ++ #[rawInt pos.line, rawInt pos.col, .ref c']).toList = tab.toList ++ [rawInt pos.line, rawInt pos.col, .ref c'] := by simp
    have nP : P ≠ c' := ne_of_none atP hn
    have at_c : upd (upd H P (.tbl (tab ++ #[rawInt pos.line, rawInt pos.col, .ref c']))) c' (CodeO c' (X.env.qual ++ "<lambda>")) c' = some (CodeO c' (X.env.qual ++ "<lambda>")) := upd_same
    refine k g.objs.size c' ((X.mg "__name__").getD .none) ctv _ _ J1 md (fun p hp => ?_) at_c ?_ nf (Heap.get?_push_size _ rfl)
    · by_cases w : p.1 = P
      · refine ⟨tab ++ #[rawInt pos.line, rawInt pos.col, .ref c'], ?_, ?_, fun p' cv hcv => ?_⟩
        · rw [w, upd_ne nP, upd_same]
        · rw [app]; exact PySem.TriplesOk_snoc _ _ _ _ tri
        · rw [app] at hcv
          rw [huq p hp w]
          rcases among_app _ tri hcv with z | z
          · obtain ⟨c0, e1, e2⟩ := known p' cv z
            exact ⟨c0, e1, ex _ _ e2 codeO_ne⟩
          · exact ⟨c', z, at_c⟩
      · obtain ⟨ps', a1, a2, a3⟩ := tb p hp
        refine ⟨ps', ?_, a2, fun p' cv hcv => ?_⟩
        · rw [upd_ne (ne_of_none a1 hn), upd_ne w]; exact a1
        · obtain ⟨c0, e1, e2⟩ := a3 p' cv hcv
          exact ⟨c0, e1, ex _ _ e2 codeO_ne⟩
    · have g1 : g.objs.size ≠ c' := Nat.ne_of_gt lt
      have g2 : g.objs.size ≠ P := fun z => Nat.lt_irrefl _ (Nat.lt_of_lt_of_le (Heap.lt_size oP) (by rw [← z]; exact sz))
      rw [upd_ne g1, upd_ne g2]
      exact J.hok.fresh sz
end
end G

set_option maxHeartbeats 2000000
/-! La43: sorted(a dict, key=lambda x: ..) as a mirror: the rule. -/
namespace G
open PySem PySem.Spec L2 LamX NdefX PyProof.Rows
section
variable {X : Cx} {cm : Cm}
theorem fn_sortK {i : Nat} {js : List Nat} {fr : List Str} {a : Str} {c P : Addr} {params : Arguments} {body iter : Expr} {scope : Scope} {lpos kpos p pos : Pos} {k : Nat} {m : Em} (hcalm : X.calm = true) (hg : Gl X "sorted") (hm : X.mg "sorted" = none) (ho : PE X iter (tVar i))
    (TB : TabB X.base X.mg c P) (hcode : X.env.code = .ref c) (hmT : (P, X.env.qual ++ "<lambda>") ∈ cm.T) (huT : ∀ p ∈ cm.T, p.1 = P → p.2 = X.env.qual ++ "<lambda>") (hr : Room (k + 3) X.A) (S : NScope (a :: fr) [a] fr scope)
    (hfree : ∀ y ∈ scope.names, y.2 = .free → X.env.scope.names.lookup y.1 = some .cell ∨ X.env.scope.names.lookup y.1 = some .free) (hfr : ∀ y ∈ fr, (y, NameKind.free) ∈ scope.names) (hjs : js.map (fun j => X.N[j]?) = fr.map some) (hdef : defaultsOf params X.env = ([], []))
    (hb : ∀ (qual : Str) (cl : List (Str × Addr)) (pm cv ctv u : Value), bindArgs (PySem.W.kla_fn "<lambda>" qual params body scope cl pm cv ctv) ⟨[u], []⟩ = pure [(a, u)])
    (hbody : ∀ (A : Around) (outer : List Env) (s : Shared) (H : Hp) (f c' : Addr), Room k (A.deeper (envF (lamF (X.env.qual ++ "<lambda>") params scope (cloFrom X.env.cells scope.names []) c') f s.heap.objs.size)) →
      FE (ncx CX0 X.prog X.w X.K X.mg X.base (a :: fr) (lamF (X.env.qual ++ "<lambda>") params scope (cloFrom X.env.cells scope.names []) c') f A outer s H E0) cm body m)
    (he : backTo pos (starEach [iter] X.env) = (false, eval iter X.env) :: backTo pos (starEach [] X.env) := by rfl) (hpl : (backTo pos (starEach [iter] X.env)).any (·.1) = false := by rfl)
    (hs : starEach [iter] X.env = (false, eval iter X.env) :: starEach [] X.env := by rfl) :
    FN X cm (.Call (.Name "sorted" p) [iter] [⟨some "key", .Lambda params body scope lpos, kpos⟩] pos) (nSortK i js m) := by
  refine ⟨fun pins s σ H Q I h => ?_⟩
  obtain ⟨C, A, ρ, t, ρ', R, q, kk⟩ := h
  unfold nSortK at q
  rw [Option.bind_eq_some_iff] at q
  obtain ⟨⟨kvs, ρ1⟩, h0, q⟩ := q
  dsimp only at q
  split at q
  rotate_left
  · cases q
  rename_i hbig
  simp only [Option.bind_eq_some_iff, Option.map_eq_some_iff] at q
  obtain ⟨cs, hcap, ns, hkn, e⟩ := q
  cases e
  obtain ⟨A1, d, ks, l1, R1, hv, hd, hnd, hk⟩ := dicS_ok R h0
  obtain ⟨hnl, hat⟩ := keyN_at hkn
  have hkl : ks.length = kvs.length := hk.length
  refine wpAny_Call_Name_kw (ld_blt I hg hm boot_sorted ?_)
  refine callWith_kw (thn ((pa_cons ho pa_nil hs).run pos pins s σ H (fun vs H' => vs = [.ref d] ∧ H' = H) I ⟨.ref d, hv, rfl, rfl⟩) fun us s1 ⟨vs, H', I1, r1, e1, e2⟩ => ?_) he hpl
  subst e2
  subst e1
  obtain ⟨u, rfl, ru⟩ := r1.one
  cases ru
  show wpAny _ _ (evalAll [do let v ← eval (.Lambda params body scope lpos) X.env; standAt pos; pure v]) _ _ s1
  refine wpAny_evalAll_cons (wpAny_bind (lam_make3 I1 TB hcode hmT huT R1.tb hdef (fun y hy e => (hfree y hy e).elim (fun z => I1.ok.has _ (.inl z)) fun z => I1.ok.has _ (.inr z)) fun f c' pm ctv H1 s2 I2 md T1 hc' hfn hff hfo => wpAny_bind (wpAny_standAt (wpAny_pure (wpAny_evalAll_nil ?_)))))
  obtain ⟨ex, dm, nx⟩ := md.ext
  obtain ⟨l2, R2⟩ := R1.extN ex dm (fun b φ z => nx b φ (R1.dom b z) (R1.ne b z)) T1
  have hd2 : Rd H1 d (.dK ks) := by
    rcases hd with z | ⟨o, z⟩
    · exact .inl (ex _ _ z (fun _ w => nomatch w))
    · exact .inr ⟨o, ex _ _ z (fun _ w => nomatch w)⟩
  let Rr : Hp → Prop := fun H' => H' c' = some (CodeO c' (X.env.qual ++ "<lambda>")) ∧ ∃ A', Lt C A1 H1 A' H' ∧ RS X.K cm C A' [] σ H' ρ'
  show wpAny _ _ (call (.builtin "sorted") [.ref d] [(Str.ofString "key", .ref f)]) _ _ s2
  refine call_sortK (Rr := Rr) (ns := ns) (E := X.xe) hcalm I2 hd2 (by rw [hkl]; exact hbig) hfo hfn hff (by rw [hnl, hkl]; simp [keysD]) ⟨hc', A1, .refl _ _, R2⟩ (by have := hr.un; omega) ?_ ?_
  · rintro j x n v t H' hx hn rv ⟨cc, A', l', R'⟩ I' hf' nf'
    obtain ⟨vs, hvs, rl⟩ := capS_ok R' hcap
    obtain ⟨⟨key, w⟩, hkj, rfl⟩ : ∃ kv, ks[j]? = some kv ∧ kV kv.1 = x := by
      rw [List.getElem?_map, Option.map_eq_some_iff] at hx
      exact hx
    have hlj : j < kvs.length := by
      have := (List.getElem?_eq_some_iff.mp hkj).1
      omega
    obtain ⟨⟨kd, dv⟩, hkd⟩ : ∃ kv, kvs[j]? = some kv := ⟨_, List.getElem?_eq_getElem hlj⟩
    obtain ⟨v', e3, _⟩ := hk.at hkd
    rw [hkj] at e3
    obtain ⟨rfl, rfl⟩ : key = kd.k ∧ w = v' := by
      have := Option.some.inj e3
      exact ⟨congrArg Prod.fst this, congrArg Prod.snd this⟩
    obtain ⟨ρ2, em⟩ := hat j kd.d n (by simp [keysD, hkd]) hn
    have rx : Rp X.K cm A' H' (kV kd.k) kd.d := kV_d kd
    have R0 := R'.args (.cons rx rl)
    have cp := Caps.made (fr := fr) (js := js) I'.ok hfree hfr hjs
    have hlen : vs.length = fr.length := by
      have e4 := congrArg List.length hvs
      have e5 := congrArg List.length hjs
      rw [List.length_map, List.length_map] at e4 e5
      exact e4.symm.trans e5
    have hst : startF (a :: fr) [kV kd.k] (js.map (slotAt σ)) = (kV kd.k :: vs).map some := by
      unfold startF
      rw [hvs]
      simp [hlen]
    refine lam_turn (ws := js.map (slotAt σ)) (k := k) (tb := tE X.K cm m) I' S (hr.in1.in1) I'.env0.in1.in1 hf' cc (fun u => hb _ _ _ _ _ u) (cells_of I' cp) rv (fun outer s H hrm => hbody _ outer s H f c' hrm) ?_
    rw [hst]
    refine ⟨_, A', slP (kd.d :: cs), .val (.int n), ρ2, R0, em, fun v H2 A2 l3 R3 w3 => ?_⟩
    have w3' : Rp X.K cm A2 H2 v (.int n) := w3
    cases w3'
    obtain ⟨l4, R4, _⟩ := R'.after l3 R3 (fun a m => nomatch m)
    exact ⟨rfl, l3.l.st _ _ cc (fun ps => codeO_ne ps) (fun z => R'.ne _ z _ cc), A2, l'.trans l4, R4⟩
  · rintro H' pp ⟨cc, A', l', R'⟩ np
    have hpair : (ks.map fun q => kV q.1).zip ns = (kvs.zip ns).map fun z => (kV z.1.1.k, z.2) := by
      have : ks.map (fun q => kV q.1) = kvs.map fun q => kV q.1.k := by
        refine List.ext_getElem? fun j => ?_
        rw [List.getElem?_map, List.getElem?_map]
        cases hkd : kvs[j]? with
        | none =>
          have : ks[j]? = none := List.getElem?_eq_none (by have := List.getElem?_eq_none_iff.mp hkd; omega)
          rw [this]; rfl
        | some kv =>
          obtain ⟨v', e3, _⟩ := hk.at (k := kv.1) (d := kv.2) hkd
          rw [e3]; rfl
      rw [this, List.zip_map_left]
      rfl
    have hpair2 : (keysD kvs).zip ns = (kvs.zip ns).map fun z => (z.1.1.d, z.2) := by
      unfold keysD
      rw [List.zip_map_left]
      rfl
    have rel : ∀ zs : List (DK × D), RpL X.K cm A' H' (zs.map fun z => kV z.1.k) (zs.map fun z => z.1.d) := by
      intro zs
      induction zs with
      | nil => exact .nil
      | cons z zs ih => exact .cons (kV_d z.1) ih
    rw [hpair, bykey_map (fun z : DK × D => kV z.1.k)]
    rw [hpair2, bykey_map (fun z : DK × D => z.1.d)] at kk
    obtain ⟨l5, R5, hF⟩ := own1 (o := .lst ((bykey (kvs.zip ns)).map fun z => kV z.1.k)) R' np
    exact kk (.ref pp) _ _ [pp] (((l1.trans l2).trans l').trans l5) R5 ⟨pp, _, rfl, rfl, upd_same, (rel _).later l5.l⟩ (by simp) hF
end
end G

set_option maxHeartbeats 2000000
/-! La44: min, max of lists and tuples of whole numbers, texts, pairs of these. -/
namespace G
open PySem PySem.Spec L2 PyProof.Rows
def D.a1 : D → D → Bool
  | .int _, .int _ => true
  | .str _, .str _ => true
  | _, _ => false
def D.e1 : D → D → Bool
  | .int i, .int j => decide (i = j)
  | .str s, .str t => decide (s = t)
  | _, _ => false
def D.l1 : D → D → Bool
  | .int i, .int j => decide (i < j)
  | .str s, .str t => decide (s < t)
  | _, _ => false
/-- of one kind: two numbers, two texts, two pairs of one kind -/
def D.alk : D → D → Bool
  | .tup [a, b], .tup [c, d] => D.a1 a c && D.a1 b d
  | a, b => D.a1 a b
def D.lt : D → D → Bool
  | .tup [a, b], .tup [c, d] => if D.e1 a c then (if D.e1 b d then false else D.l1 b d) else D.l1 a c
  | a, b => D.l1 a b
theorem a1_py {x y : D} (h : D.a1 x y = true) : PySem.W.alike x.py y.py = true ∧ PySem.W.dataLt x.py y.py = D.l1 x y ∧ PyData.eqv x.py y.py = D.e1 x y ∧ x.py ≠ .none ∧ x.py.depth = 0 ∧ (x.py = y.py → x = y) := by
  cases x <;> cases y <;> try cases h
  · rename_i i j
    simp only [D.py]
    refine ⟨rfl, PySem.W.dataLt_int _ _, ?_, fun z => (nomatch z), rfl, fun z => by injection z with z; rw [z]⟩
    simp only [PyData.eqv, D.e1]
    by_cases q : i = j <;> simp [q]
  · rename_i s t
    simp only [D.py]
    refine ⟨rfl, ?_, ?_, fun z => (nomatch z), rfl, fun z => by injection z with z; rw [S_inj z]⟩
    · rw [PySem.W.dataLt_str]
      simp only [S, D.l1]
      exact decide_eq_decide.mpr Iff.rfl
    · simp only [PyData.eqv, D.e1]
      by_cases q : s = t
      · subst q; simp
      · have : S s ≠ S t := fun z => q (S_inj z)
        simp [q, this]
theorem alk_py {x y : D} (h : D.alk x y = true) : PySem.W.alike x.py y.py = true ∧ PySem.W.dataLt x.py y.py = D.lt x y ∧ x.py ≠ .none ∧ x.py.depth ≤ 1 ∧ (x.py = y.py → x = y) := by
  unfold D.alk at h
  split at h
  · rename_i a b c d
    rw [Bool.and_eq_true] at h
    obtain ⟨p1, p2, p3, p4, p5, p6⟩ := a1_py h.1
    obtain ⟨q1, q2, q3, q4, q5, q6⟩ := a1_py h.2
    simp only [D.py, D.pys]
    refine ⟨?_, ?_, fun z => (nomatch z), ?_, fun z => ?_⟩
    · simp [PySem.W.alike, PySem.W.alikeAll, p1, q1]
    · rw [PySem.W.dataLt_pair p1 q1, p3, q3, p2, q2]
      rfl
    · simp [PyData.depth, PyData.depthAll, p5, q5]
    · injection z with z
      injection z with z1 z2
      injection z2 with z2 _
      rw [p6 z1, q6 z2]
  · rename_i n
    obtain ⟨p1, p2, _, p4, p5, p6⟩ := a1_py h
    refine ⟨p1, ?_, p4, by omega, p6⟩
    rw [p2]
    unfold D.lt
    split
    · cases h
    · rfl
/-- a row of one kind -/
def rowK (d : D) (ds : List D) : Bool := d.alk d && ds.all (fun y => d.alk y && y.alk y && y.alk d) && ds.all (fun y => ds.all fun z => y.alk z) && D.flats (d :: ds)
def minR (d : D) (ds : List D) : D := ds.foldl (fun a y => if D.lt y a then y else a) d
def maxR (d : D) (ds : List D) : D := ds.foldl (fun a y => if D.lt a y then y else a) d
theorem rowK_all {d : D} {ds : List D} (h : rowK d ds = true) : (∀ x ∈ d :: ds, ∀ y ∈ d :: ds, D.alk x y = true) ∧ D.flats (d :: ds) = true := by
  simp only [rowK, Bool.and_eq_true, List.all_eq_true] at h
  obtain ⟨⟨⟨h1, h2⟩, h3⟩, h4⟩ := h
  refine ⟨fun x hx y hy => ?_, h4⟩
  rcases List.mem_cons.mp hx with ex | mx <;> rcases List.mem_cons.mp hy with ey | my
  · rw [ex, ey]; exact h1
  · rw [ex]; exact (h2 y my).1.1
  · rw [ey]; exact (h2 x mx).2
  · exact h3 x mx y my
theorem minR_mem (d : D) : ∀ ds : List D, minR d ds ∈ d :: ds := by
  intro ds
  unfold minR
  induction ds generalizing d with
  | nil => simp
  | cons y ys ih =>
    rw [List.foldl_cons]
    have := ih (if D.lt y d then y else d)
    rcases List.mem_cons.mp this with e | e
    · rw [e]; split <;> simp
    · simp [e]
theorem maxR_mem (d : D) : ∀ ds : List D, maxR d ds ∈ d :: ds := by
  intro ds
  unfold maxR
  induction ds generalizing d with
  | nil => simp
  | cons y ys ih =>
    rw [List.foldl_cons]
    have := ih (if D.lt d y then y else d)
    rcases List.mem_cons.mp this with e | e
    · rw [e]; split <;> simp
    · simp [e]
theorem pys_map : ∀ ds : List D, D.pys ds = ds.map D.py
  | [] => rfl
  | d :: ds => by simp [D.pys, pys_map ds]
theorem minR_py {d : D} : ∀ {ds : List D}, (∀ x ∈ d :: ds, ∀ y ∈ d :: ds, D.alk x y = true) → PySem.W.minD d.py (D.pys ds) = (minR d ds).py := by
  intro ds h
  rw [pys_map]
  unfold PySem.W.minD minR
  induction ds generalizing d with
  | nil => rfl
  | cons y ys ih =>
    rw [List.map_cons, List.foldl_cons, List.foldl_cons, (alk_py (h y (by simp) d (by simp))).2.1]
    cases q : D.lt y d
    · rw [if_neg (by simp), if_neg (by simp)]
      exact ih fun x hx z hz => h x (by simp at hx ⊢; rcases hx with e | e <;> simp [e]) z (by simp at hz ⊢; rcases hz with e | e <;> simp [e])
    · rw [if_pos rfl, if_pos rfl]
      exact ih fun x hx z hz => h x (by simp at hx ⊢; rcases hx with e | e <;> simp [e]) z (by simp at hz ⊢; rcases hz with e | e <;> simp [e])
theorem maxR_py {d : D} : ∀ {ds : List D}, (∀ x ∈ d :: ds, ∀ y ∈ d :: ds, D.alk x y = true) → PySem.W.maxD d.py (D.pys ds) = (maxR d ds).py := by
  intro ds h
  rw [pys_map]
  unfold PySem.W.maxD maxR
  induction ds generalizing d with
  | nil => rfl
  | cons y ys ih =>
    rw [List.map_cons, List.foldl_cons, List.foldl_cons, (alk_py (h d (by simp) y (by simp))).2.1]
    cases q : D.lt d y
    · rw [if_neg (by simp), if_neg (by simp)]
      exact ih fun x hx z hz => h x (by simp at hx ⊢; rcases hx with e | e <;> simp [e]) z (by simp at hz ⊢; rcases hz with e | e <;> simp [e])
    · rw [if_pos rfl, if_pos rfl]
      exact ih fun x hx z hz => h x (by simp at hx ⊢; rcases hx with e | e <;> simp [e]) z (by simp at hz ⊢; rcases hz with e | e <;> simp [e])
theorem row_alike {d : D} {ds : List D} (h : ∀ x ∈ d :: ds, ∀ y ∈ d :: ds, D.alk x y = true) : PySem.W.AlikeAll (d.py :: D.pys ds) := by
  have e : d.py :: D.pys ds = (d :: ds).map D.py := by rw [List.map_cons, pys_map]
  rw [e]
  refine ⟨fun x hx y hy => ?_, fun x hx => ?_⟩
  · obtain ⟨a, ma, rfl⟩ := List.mem_map.mp hx
    obtain ⟨b, mb, rfl⟩ := List.mem_map.mp hy
    exact (alk_py (h a ma b mb)).1
  · obtain ⟨a, ma, rfl⟩ := List.mem_map.mp hx
    exact (alk_py (h a ma a ma)).2.2.1
theorem row_depth {d : D} {ds : List D} (h : ∀ x ∈ d :: ds, ∀ y ∈ d :: ds, D.alk x y = true) : PyData.depthAll (d.py :: D.pys ds) ≤ 1 := by
  have : ∀ es : List D, (∀ x ∈ es, D.alk x x = true) → PyData.depthAll (D.pys es) ≤ 1 := by
    intro es
    induction es with
    | nil => intro _; simp [D.pys, PyData.depthAll]
    | cons e es ih =>
      intro q
      have h1 := (alk_py (q e (by simp))).2.2.2.1
      have h2 := ih fun x m => q x (by simp [m])
      simp only [D.pys, PyData.depthAll]
      omega
  exact this (d :: ds) fun x m => h x m x m
section
variable {X : Cx} {K : PySem.W.Frag} {cm : Cm} {pins : List (Addr × Obj)} {σ : L2.St} {H : Hp} {s : Shared}
/-- the best of a list or a tuple, told by its data -/
def rBest (K : PySem.W.Frag) (best : PyData → List PyData → PyData) : List V → Hp → VK → Prop := fun vs H Q => ∃ (a : Addr) (xs : List V) (d : PyData) (ds : List PyData), vs = [V.ref a] ∧ (SqL K H a xs ∨ SqT K H a xs) ∧ DpAll K H xs (d :: ds) ∧ PySem.W.AlikeAll (d :: ds) ∧ PyData.depthAll (d :: ds) ≤ 1 ∧ best d ds ∈ d :: ds ∧
  ∀ (i : Nat) (x : V), xs[i]? = some x → (d :: ds)[i]? = some (best d ds) → Q x H
theorem dpAll_get : ∀ {xs : List V} {ds : List PyData} {i : Nat} {x : V}, DpAll K H xs ds → xs[i]? = some x → ∃ d, ds[i]? = some d ∧ Dp K H x d
  | _, _, _, _, .nil, e => by simp at e
  | _, _, 0, _, .cons h _, e => by cases e; exact ⟨_, rfl, h⟩
  | _, _, i + 1, _, .cons _ t, e => by
    obtain ⟨d, e1, h⟩ := dpAll_get (i := i) t (by simpa using e)
    exact ⟨d, by simpa using e1, h⟩
theorem vals_back : ∀ {xs : List V} {us : List Value} {i : Nat} {u : Value}, Vals xs us → us[i]? = some u → ∃ x, xs[i]? = some x ∧ RelV x u
  | _, _, _, _, .nil, e => by simp at e
  | _, _, 0, _, .cons r _, e => by cases e; exact ⟨_, rfl, r⟩
  | _, _, i + 1, _, .cons _ t, e => by
    obtain ⟨x, e1, h⟩ := vals_back (i := i) t (by simpa using e)
    exact ⟨x, by simpa using e1, h⟩
theorem best_fin {Q : VK} {d b : PyData} {ds : List PyData} {xs : List V} {its : List Value} (I : Inv X pins σ H s) (rv : Vals xs its) (hd : DpAll X.K H xs (d :: ds)) (hal : PySem.W.AlikeAll (d :: ds)) (hm : b ∈ d :: ds) (q : ∀ (i : Nat) (x : V), xs[i]? = some x → (d :: ds)[i]? = some b → Q x H)
    (i : Nat) (v : Value) (h' : Heap) (tk : Nat) (bs : List Addr) (hi : its.toArray[i]? = some v) (hr : Reads h' v b bs) (hk : ∀ b o, s.heap.get? b = some o → h'.get? b = some o) : EP X pins σ Q v { s with heap := h', toks := tk } := by
  rw [List.getElem?_toArray] at hi
  obtain ⟨x, hx, rx⟩ := vals_back rv hi
  obtain ⟨e, he, hde⟩ := dpAll_get hd hx
  have I2 : Inv X pins σ H { s with heap := h', toks := tk } := I.kept hk
  obtain ⟨as, r2⟩ := Dp.reads I2 e x v hde rx
  have : e = b := PySem.W.alike_unique e b v as bs (hal.1 e (List.mem_of_getElem? he) b hm) r2 hr
  exact ⟨x, H, I2, rx, q i x hx (by rw [he, this])⟩
theorem cr_minD (hc : X.calm = true) (hu : X.A.units + 3 < cLine) : CallR X (.builtin "min") (rBest X.K PySem.W.minD) := by
  intro pins s σ H vs us Q I r h
  obtain ⟨a, xs, d, ds, rfl, hs, hd, hal, hdp, hm, q⟩ := h
  rw [Vals.ref1 r]
  rcases hs with hs | hs
  · obtain ⟨its, rv, hl, _⟩ := I.list hs
    obtain ⟨as, ra⟩ := Dp.readsAll I (d :: ds) xs its hd rv
    exact PySem.W.min_list_data (I.ok.hd hc) hl.isList ra hal (by omega) (fun i v h' tk bs hi hr hk => best_fin I rv hd hal hm q i v h' tk bs hi hr hk)
  · obtain ⟨its, rv, hl, _⟩ := I.tuple hs
    obtain ⟨as, ra⟩ := Dp.readsAll I (d :: ds) xs its hd rv
    exact PySem.W.min_tuple_data (I.ok.hd hc) hl ra hal (by omega) (fun i v h' tk bs hi hr hk => best_fin I rv hd hal hm q i v h' tk bs hi hr hk)
theorem cr_maxD (hc : X.calm = true) (hu : X.A.units + 3 < cLine) : CallR X (.builtin "max") (rBest X.K PySem.W.maxD) := by
  intro pins s σ H vs us Q I r h
  obtain ⟨a, xs, d, ds, rfl, hs, hd, hal, hdp, hm, q⟩ := h
  rw [Vals.ref1 r]
  rcases hs with hs | hs
  · obtain ⟨its, rv, hl, _⟩ := I.list hs
    obtain ⟨as, ra⟩ := Dp.readsAll I (d :: ds) xs its hd rv
    exact PySem.W.max_list_data (I.ok.hd hc) hl.isList ra hal (by omega) (fun i v h' tk bs hi hr hk => best_fin I rv hd hal hm q i v h' tk bs hi hr hk)
  · obtain ⟨its, rv, hl, _⟩ := I.tuple hs
    obtain ⟨as, ra⟩ := Dp.readsAll I (d :: ds) xs its hd rv
    exact PySem.W.max_tuple_data (I.ok.hd hc) hl ra hal (by omega) (fun i v h' tk bs hi hr hk => best_fin I rv hd hal hm q i v h' tk bs hi hr hk)
/-- min(xs), max(xs) -/
def cBest (best : D → List D → D) : List D → Option D
  | [.lst (d :: ds)] => if rowK d ds then some (best d ds) else none
  | [.tup (d :: ds)] => if rowK d ds then some (best d ds) else none
  | _ => none
theorem rc_best {bp : PyData → List PyData → PyData} {bd : D → List D → D} (hmem : ∀ d ds, bd d ds ∈ d :: ds) (hpy : ∀ {d : D} {ds : List D}, (∀ x ∈ d :: ds, ∀ y ∈ d :: ds, D.alk x y = true) → bp d.py (D.pys ds) = (bd d ds).py) : RC K cm (rBest K bp) (cBest bd) := by
  intro A H vs es dz Q hd hl hr e k
  have key : ∀ {v : V} {d : D} {ds : List D} {a : Addr} {xs : List V}, rowK d ds = true → v = .ref a → (SqL K H a xs ∨ SqT K H a xs) → RpL K cm A H xs (d :: ds) → (∀ x, Rp K cm A H x (bd d ds) → Q x H) → rBest K bp [v] H Q := fun {v d ds a xs} hk hv hsq rl kk => by
    subst hv
    obtain ⟨hall, hfl⟩ := rowK_all hk
    have epy : D.pys (d :: ds) = d.py :: D.pys ds := rfl
    refine ⟨a, xs, d.py, D.pys ds, rfl, hsq, by rw [← epy]; exact rl.dp hfl, row_alike hall, row_depth hall, ?_, fun i x hx hb => ?_⟩
    · rw [hpy hall, ← epy, pys_map]
      exact List.mem_map_of_mem (hmem d ds)
    · have hlx := rl.length
      have hil : i < (d :: ds).length := by have := (List.getElem?_eq_some_iff.mp hx).1; omega
      obtain ⟨v', e1, r1⟩ := rl.get (List.getElem?_eq_getElem hil)
      rw [hx] at e1
      cases e1
      rw [hpy hall, ← epy, pys_map, List.getElem?_map, List.getElem?_eq_getElem hil] at hb
      have e2 : (d :: ds)[i].py = (bd d ds).py := Option.some.inj hb
      have e3 := (alk_py (hall _ (List.getElem_mem hil) _ (hmem d ds))).2.2.2.2 e2
      rw [← e3] at kk
      exact kk x r1
  unfold cBest at e
  split at e
  · rename_i d ds
    split at e
    · rename_i hk
      cases e
      obtain ⟨v, rfl, r⟩ := hr.one
      obtain ⟨a, xs, rfl, hs, rl⟩ := r.ls
      exact key hk rfl (.inl hs) rl fun x rx => k x H (.refl H) rx
    · cases e
  · rename_i d ds
    split at e
    · rename_i hk
      cases e
      obtain ⟨v, rfl, r⟩ := hr.one
      obtain ⟨a, xs, rfl, hs, rl⟩ := r.tup
      exact key hk rfl (.inr hs) rl fun x rx => k x H (.refl H) rx
    · cases e
  · cases e
end
end G

set_option maxHeartbeats 2000000
/-! La45: either rule; x[::-1] of lists and texts. -/
namespace G
open PySem PySem.Spec L2 PyProof.Rows
def nOr (f g : Rho → Option (T × Rho)) : Rho → Option (T × Rho) := fun ρ => (f ρ).or (g ρ)
section
variable {X : Cx} {cm : Cm} {e : Expr} {pos : Pos}
theorem fn_or {f g : Rho → Option (T × Rho)} (h1 : FN X cm e f) (h2 : FN X cm e g) : FN X cm e (nOr f g) := (h1.or h2).imp fun σ H Q ⟨C, A, ρ, t, ρ', R, q, k⟩ => by
  unfold nOr at q
  cases e1 : f ρ with
  | some z => rw [e1] at q; cases q; exact .inl ⟨C, A, ρ, t, ρ', R, e1, k⟩
  | none => rw [e1] at q; exact .inr ⟨C, A, ρ, t, ρ', R, q, k⟩
def nRevL (f : Em) : Rho → Option (T × Rho) := fun ρ => (f ρ).bind fun p => (rd p.2 p.1).bind fun d => match d with
  | .lst ds => some (.ls ds.reverse, p.2)
  | _ => none
def eRevT (f : Em) : Em := fun ρ => (f ρ).bind fun p => match p.1 with
  | .val (.str s) => if s.length ≤ big then some (.val (.str s.reverse), p.2) else none
  | _ => none
theorem fn_revL {f : Em} {k : Nat} {p1 p2 p3 : Pos} (he : FE X cm e f) : FN X cm (.Subscript e (.Slice none none (some (.UnaryOp .USub (.Constant (.int 1) k p1) p2)) p3) pos) (nRevL f) := (pe_revL he).imp fun σ H Q ⟨C, A, ρ, t, ρ', R, q, kk⟩ => by
  unfold nRevL at q
  simp only [Option.bind_eq_some_iff] at q
  obtain ⟨⟨r, ρ1⟩, h1, d, h2, h3⟩ := q
  split at h3
  · rename_i ds
    cases h3
    refine ⟨C, A, ρ, r, _, R, h1, fun v H1 A1 l1 R1 w1 => ?_⟩
    obtain ⟨a, xs, rfl, hs, rl⟩ := (rd_ok R1 w1 h2).ls
    refine ⟨a, xs, rfl, hs, fun p hp => ?_⟩
    obtain ⟨l2, R2, hF⟩ := own1 (o := .lst xs.reverse) R1 hp
    exact kk _ _ _ [p] (l1.trans l2) R2 ⟨p, _, rfl, rfl, upd_same, rl.rev.later l2.l⟩ (by simp) hF
  · cases h3
theorem str_back (x : Str) : ((Builtin.Str.strSliceIndices none none (-1) x.length).filterMap (x.cps[·]?)).toArray = (x.cps.toList.reverse).toArray := by
  show ((sliceRange ((x.cps.size : Int) - 1) (-1) (-1)).filterMap (x.cps[·]?)).toArray = _
  rw [PySem.W.krv_sliceRange, PySem.W.krv_range, List.filterMap_reverse, PySem.W.krv_all]
def tRevT (te : TE) : TE := fun σ H Q => te σ H fun x H1 => ∃ z : Str, x = .str z ∧ z.length ≤ sizeLine ∧ Q (.str ⟨z.cps.toList.reverse.toArray⟩) H1
theorem pe_revT {te : TE} {k : Nat} {p1 p2 p3 : Pos} (hx : PE X e te) : PE X (.Subscript e (.Slice none none (some (.UnaryOp .USub (.Constant (.int 1) k p1) p2)) p3) pos) (tRevT te) := by
  have hm : PO X (some (.UnaryOp .USub (.Constant (.int 1) k p1) p2)) (tPart (tUn (rU fun i => .int (-i)) (tC (.int 1)))) := po_some (pe_un un_neg pe_int)
  refine ⟨fun pins s0 σ H0 Q J0 h0 => Subscript_ (thn (hx.run pins s0 σ H0 _ J0 h0) fun v sa ⟨x, Ha, Ja, ra, ⟨z, ez, hz, qz⟩⟩ => ?_)⟩
  subst ez
  obtain ⟨tz, rfl⟩ := ra
  refine wpAny_Slice (thn (po_none.run pins sa σ Ha (fun o Hn => o = none ∧ Hn = Ha) Ja ⟨rfl, rfl⟩) fun vl sb ⟨ol, Hb, Jb, gl, el, eb⟩ => ?_)
  subst el eb
  refine thn (po_none.run pins sb σ Hb (fun o Hn => o = none ∧ Hn = Hb) Jb ⟨rfl, rfl⟩) fun vu sc ⟨ou, Hc, Jc, gu, eu, ec⟩ => ?_
  subst eu ec
  refine thn (hm.run pins sc σ Hc (fun o Hn => o = some (-1) ∧ Hn = Hc) Jc ⟨1, rfl, -1, rfl, rfl, rfl⟩) fun vs sd ⟨os, Hd, Jd, gs, es, ed⟩ => ?_
  subst es ed
  obtain ⟨l1, rfl, q1⟩ := IsPart.raw gl
  obtain ⟨l2, rfl, q2⟩ := IsPart.raw gu
  obtain ⟨l3, rfl, q3⟩ := IsPart.raw gs
  have Je : Inv X pins σ Hd { sd with heap := sd.heap.push { cls := .type "slice", data := .fields #[partValue l1, partValue l2, partValue l3] } } := Jd.kept (t' := sd.toks) fun b ob q => Heap.get?_push_of_some _ q
  show wpAny (model X.prog X.w) X.A (subscriptTail e (.Slice none none (some (.UnaryOp .USub (.Constant (.int 1) k p1) p2)) p3) (.str z tz) (.ref sd.heap.objs.size)) (EP X pins σ Q) X.xe { sd with heap := sd.heap.push { cls := .type "slice", data := .fields #[partValue l1, partValue l2, partValue l3] } }
  refine tail_any (ops := [.str z tz, .ref sd.heap.objs.size]) (typeIs_str _ _ _) F.slot_str_getitem.lookup ?_ (by with_unfolding_all rfl)
  refine wpAny_getItem_str_slice (l := l1) (u := l2) (st := l3) ⟨_, Heap.get?_push_size _ rfl, rfl, rfl⟩ (by rw [q3]; rfl) ?_
  unfold sliceMade slicePicked
  rw [q1, q2, q3]
  show Made.post (if ((-1 : Int) == 1 && _) = true then _ else Made.str ⟨((Builtin.Str.strSliceIndices none none (-1) z.length).filterMap (z.cps[·]?)).toArray⟩) (EP X pins σ Q) _
  rw [if_neg (by simp), str_back]
  refine ⟨?_, .str _, Hd, Je.tok _, ⟨_, rfl⟩, qz⟩
  show (Array.size _) ≤ _
  rw [List.size_toArray, List.length_reverse, Array.length_toList]
  exact hz
theorem fe_revT {f : Em} {k : Nat} {p1 p2 p3 : Pos} (he : FE X cm e f) : FE X cm (.Subscript e (.Slice none none (some (.UnaryOp .USub (.Constant (.int 1) k p1) p2)) p3) pos) (eRevT f) := (pe_revT he).imp fun σ H Q ⟨C, A, ρ, t, ρ', R, q, kk⟩ => by
  unfold eRevT at q
  simp only [Option.bind_eq_some_iff] at q
  obtain ⟨⟨r, ρ1⟩, h1, h3⟩ := q
  dsimp only at h3
  split at h3
  · rename_i s
    split at h3
    · rename_i hz
      cases h3
      refine ⟨C, A, ρ, _, _, R, h1, fun v H1 A1 l1 R1 w1 => ?_⟩
      have w1' : Rp X.K cm A1 H1 v (.str s) := w1
      cases w1'
      refine ⟨S s, rfl, by rw [S_len]; exact big_le hz, ?_⟩
      rw [S_cps]
      exact kk _ _ _ l1 R1 (.str s.reverse)
    · cases h3
  · cases h3
end
end G

set_option maxHeartbeats 2000000
/-! La46: [.. for k, v in d.items() if ..], displays with a star: *a list, *d.values(). -/
namespace G
open PySem PySem.Spec L2 PyProof.Rows
def itemsD (kvs : List (DK × D)) : List D := kvs.map fun kv => .tup [kv.1.d, kv.2]
def iItm (i : Nat) : Im := fun ρ => (dicS i ρ).map fun p => (itemsD p.1, p.2)
theorem it_items {K : PySem.W.Frag} {cm : Cm} {d : Addr} {od : Obj} {ks : List (Key × V)} {kvs : List (DK × D)} : ItOk K cm (Iti d od ks) (fun A H => H d = some (.frz od (.dK ks)) ∧ ¬ A d ∧ RpK K cm A H ks kvs) (itemsD kvs) where
  stay := fun A H A' H' ⟨h, n, r⟩ l => ⟨l.st _ _ h pl_frz.1 n, (l.rd (.inl h) n).2, r.later l⟩
  go := fun A H i ⟨h, _, r⟩ q => ⟨h, by rw [r.length]; simpa [itemsD] using q⟩
  yld := fun A H i x H' e ⟨h, _, r⟩ hdom q hy => by
    obtain ⟨T, k, v, e1, rfl, hT, rfl⟩ := hy
    simp only [itemsD, List.getElem?_map, Option.map_eq_some_iff] at q
    obtain ⟨⟨k', d'⟩, q1, rfl⟩ := q
    obtain ⟨v', e2, rv⟩ := r.at q1
    rw [e1] at e2; cases e2
    exact ⟨same_new hT, new_tup hdom hT (.cons (kV_d k') (.one rv))⟩
  stop := fun A H i ⟨h, _, r⟩ q => ⟨h, by rw [r.length]; simpa [itemsD] using q⟩
section
variable {X : Cx} {cm : Cm} {pos tpos apos cpos : Pos} {elt e c : Expr} {ifs elts : List Expr} {kk : Nat}
theorem fn_lcI {i : Nat} {own : List (Str × Nat)} {scope : Scope} {is : List Nat} {h : D → Rho → Option Rho} {g : Bm} {el : Em} (hc : X.calm = true) (hN : X.N.Nodup) (ho : PE X e (tVar i)) (ok : BlkOk X.N X.env.scope scope own)
    (hg : ∀ (s : Shared) (H : Hp) (C : Addr) (cl : List (Str × Addr)) (fp : List Addr), FG (X.blk s H scope (compEnvC scope cl C X.env) fp) cm (.Tuple elts kk tpos) is h) (ht : ∀ (s : Shared) (H : Hp) (C : Addr) (cl : List (Str × Addr)) (fp : List Addr), FTs (X.blk s H scope (compEnvC scope cl C X.env) fp) cm ifs g)
    (he : ∀ (s : Shared) (H : Hp) (C : Addr) (cl : List (Str × Addr)) (fp : List Addr), FE (X.blk s H scope (compEnvC scope cl C X.env) fp) cm elt el) (hsub : ∀ i ∈ is, i ∈ own.map (·.2))
    (hbase : attributeBase e "items" X.env (eval e X.env) = eval e X.env := by rfl) (hline : (apos.endLine == cpos.line) = true := by rfl) (hs : ∀ x, foldedSetIterable (.Call (.Attribute e "items" apos) [] [] cpos) X.env x = pure x := by intro _; rfl) :
    FN X cm (.ListComp elt [⟨.Tuple elts kk tpos, .Call (.Attribute e "items" apos) [] [] cpos, ifs, 0⟩] scope pos) (nLc (own.map (·.2)) (iItm i) h g el) :=
  ((pe_lock (pe_lc hc hN (pi_items ho hbase hline) ok hg ht he hs)).or (pe_lc hc hN (pi_items ho hbase hline) ok hg ht he hs)).imp fun σ H Q ⟨C, A, ρ, t, ρ', R, q, k⟩ => by
    unfold nLc iItm at q
    simp only [Option.bind_eq_some_iff, Option.map_eq_some_iff] at q
    obtain ⟨⟨ds, ρ1⟩, ⟨⟨kvs, ρ1'⟩, h0, h0'⟩, q⟩ := q
    cases h0'
    dsimp only at q
    split at q
    rotate_left
    · cases q
    rename_i hbig
    simp only [Option.bind_eq_some_iff, Option.map_eq_some_iff] at q
    obtain ⟨ρw, h2, ⟨all, ρ2⟩, h3, h4⟩ := q
    cases h4
    obtain ⟨A1, d, ks, l1, R1, hv, hd, hn, hk⟩ := dicS_ok R h0
    rcases hd with hd | ⟨od, hd⟩
    · refine .inl ⟨d, .dK ks, hd, trivial, fun od => ?_⟩
      have s : Sw d ks H (upd H d (.frz od (.dK ks))) := ⟨.inl hd, .inr ⟨od, upd_same⟩, fun x q => upd_ne q⟩
      have R2 := R1.sw (o := .frz od (.dK ks)) s hn
      refine tLc_core (C := C.sw d (.frz od (.dK ks))) (A := A1) hsub (fun R' hR => ⟨_, hv, d, od, ks, rfl, upd_same, hR _ _ A1 _ (.refl _ _) R2 it_items ⟨upd_same, hn, hk.sw s⟩⟩) hbig h2 h3 fun v H' A' F l2 R3 rt hnd hF => ?_
      have hd' : H' d = some (.frz od (.dK ks)) := l2.l.st _ _ upd_same pl_frz.1 hn
      have hn' : ¬ A' d := (l2.l.rd (.inl upd_same) hn).2
      have s' : Sw d ks H' (upd H' d (.dK ks)) := ⟨.inr ⟨od, hd'⟩, .inl upd_same, fun x q => upd_ne q⟩
      refine ⟨hd', k v _ A' F (l1.trans (Lt.unsw (ks := ks) hd hn (fun z => hn (R1.out d z)) l2)) (R3.unsw s' hn' fun x e tn np => ?_) (rt.sw s' fun m => hn' (hF d m).2.1) hnd fun a m => ⟨sw_none.mp (hF a m).1, (hF a m).2⟩⟩
      have := R1.fr d x e tn np
      rw [hd] at this; cases this; rfl
    · refine .inr (tLc_core (C := C) (A := A1) hsub (fun R' hR => ⟨_, hv, d, od, ks, rfl, hd, hR _ _ A1 _ (.refl _ _) R1 it_items ⟨hd, hn, hk⟩⟩) hbig h2 h3 fun v H' A' F l2 R3 rt hnd hF => k v H' A' F (l1.trans l2) R3 rt hnd hF)
end

/-! ### *e in a display -/
def aStar (f : Em) (g : Am) : Am := fun ρ => (f ρ).bind fun p => (rd p.2 p.1).bind fun d => match d with
  | .tup ds => (g p.2).map fun q => (ds.map RV.val ++ q.1, q.2)
  | .lst ds => (g p.2).map fun q => (ds.map RV.val ++ q.1, q.2)
  | _ => none
section
variable {X : Cx} {cm : Cm} {e : Expr} {es : List Expr} {p apos cpos : Pos}
theorem rrvs_val {K : PySem.W.Frag} {A : AS} {H : Hp} {σ : L2.St} : ∀ {vs : List V} {ds : List D}, RpL K cm A H vs ds → RRVs K cm A H σ vs (ds.map RV.val)
  | _, _, .nil => .nil
  | _, _, .cons h r => .cons h (rrvs_val r)
theorem rrvs_app {K : PySem.W.Frag} {A : AS} {H : Hp} {σ : L2.St} : ∀ {vs ws : List V} {ds es : List RV}, RRVs K cm A H σ vs ds → RRVs K cm A H σ ws es → RRVs K cm A H σ (vs ++ ws) (ds ++ es)
  | _, _, _, _, .nil, h => h
  | _, _, _, _, .cons h r, h2 => .cons h (rrvs_app r h2)
theorem fa_star {f : Em} {g : Am} (ha : FE X cm e f) (hr : FA X cm es g) (hs : starEach (.Starred e p :: es) X.env = (true, eval e X.env) :: starEach es X.env := by rfl) : FA X cm (.Starred e p :: es) (aStar f g) :=
  (StX.pa_star ha hr hs).imp fun σ H Q ⟨C, A, ρ, t, ρ', R, q, k⟩ => by
    unfold aStar at q
    simp only [Option.bind_eq_some_iff] at q
    obtain ⟨⟨r, ρ1⟩, h1, d, h2, q⟩ := q
    dsimp only at q
    refine ⟨C, A, ρ, r, ρ1, R, h1, fun v1 H1 A1 l1 R1 w1 => ?_⟩
    have ro := rd_ok R1 w1 h2
    split at q
    · rw [Option.map_eq_some_iff] at q
      obtain ⟨⟨rs, ρ2⟩, h3, h4⟩ := q
      cases h4
      obtain ⟨a, xs, rfl, hs, rl⟩ := ro.tup
      exact ⟨_, _, rfl, .inl hs, C, A1, ρ1, rs, _, R1, h3, fun vs H2 A2 l2 R2 w2 => k _ H2 A2 (l1.trans l2) R2 (rrvs_app (rrvs_val (rl.later l2.l)) w2)⟩
    · rw [Option.map_eq_some_iff] at q
      obtain ⟨⟨rs, ρ2⟩, h3, h4⟩ := q
      cases h4
      obtain ⟨a, xs, rfl, hs, rl⟩ := ro.ls
      exact ⟨_, _, rfl, .inr hs, C, A1, ρ1, rs, _, R1, h3, fun vs H2 A2 l2 R2 w2 => k _ H2 A2 (l1.trans l2) R2 (rrvs_app (rrvs_val (rl.later l2.l)) w2)⟩
    · cases q

def tStarV (te : TE) (t : TA) : TA := fun σ H Q => te σ H fun x H1 => ∃ d ks, x = V.ref d ∧ Rd H1 d (.dK ks) ∧ t σ H1 fun ys H2 => Q (ks.map (·.2) ++ ys) H2
theorem kv_vals {kvs : List (Key × V)} {vs : List (Key × Value)} (kv : KV kvs vs) : Vals (kvs.map (·.2)) (vs.map (·.2)) := by
  unfold KV at kv
  induction kv with
  | nil => exact .nil
  | cons h _ ih => exact .cons h.2 ih
theorem kvals_at {kvs : List (Key × V)} {vs : List (Key × Value)} (kv : KV kvs vs) (acc : List Value) (hl : acc.length = vs.length) (h : ∀ (j : Nat) (v : Value), acc[j]? = some v → ∃ k, vs[j]? = some (k, v)) : Vals (kvs.map (·.2)) acc := by
  have e : acc = vs.map (·.2) := PySem.W.kdl_vals_eq acc hl h
  subst e
  exact kv_vals kv
theorem pa_starV {te : TE} {t : TA} {pos1 : Pos} (hcalm : X.calm = true) (he : PE X e te) (hr : PA X es t) (hbase : attributeBase e "values" X.env (eval e X.env) = eval e X.env := by rfl) (hline : (apos.endLine == cpos.line) = true := by rfl)
    (hs : starEach (.Starred (.Call (.Attribute e "values" apos) [] [] cpos) pos1 :: es) X.env = (true, eval (.Call (.Attribute e "values" apos) [] [] cpos) X.env) :: starEach es X.env := by rfl) :
    PA X (.Starred (.Call (.Attribute e "values" apos) [] [] cpos) pos1 :: es) (tStarV te t) := by
  refine ⟨fun pos pins s σ H Q I h => ?_⟩
  refine PySem.W.items_star ?_ hs
  refine wpAny_Call_method (T := "dict") (id := "dict.values") hbase rfl hline F.plainAttrs_dict F.slot_dict_values F.type_dict_values (thn (he.run pins s σ H _ I h) fun u s1 ⟨x, H1, I1, rx, d, kvs, ex, hd, q⟩ => ?_)
  subst ex
  obtain rfl : u = Value.ref d := rx
  obtain ⟨z, lo, vs, rel, dd⟩ := dk_rd I1.hok hd
  obtain ⟨ep, hm⟩ := dd.dictAt
  have hl : kvs.length = vs.length := rel.length
  refine ⟨hm.dictOf.typeIs, hm.dictOf.mapOf.noDict, ?_⟩
  have I2 : Inv X pins σ H1 { s1 with heap := s1.heap.push { cls := .type "dict_values", data := .fields #[.ref d] } } := I1.kept (t' := s1.toks) fun b ob q => Heap.get?_push_of_some _ q
  show wpAny _ _ (callWith cpos (.builtin "dict.values") [.ref d] [] []) _ X.xe s1
  refine method_meetsIn F.slot_dict_values F.entry_dict_values rfl (PySem.evalArgs_none ⟨rfl, hm.dictOf.typeIs, F.args_dict_values_1 _, _, meets_dict_values (mixKind X.prog X.w) d lo, ⟨vs, hm.dictOf⟩, ?_⟩)
  have hview : (s1.heap.push { cls := .type "dict_values", data := .fields #[.ref d] }).IsValuesView s1.heap.objs.size d := ⟨_, Heap.get?_push_size _ rfl, rfl, rfl⟩
  have zz : wpAny (model X.prog X.w) X.A (collect (.ref s1.heap.objs.size)) (fun here s₂ => wpAny (model X.prog X.w) X.A (spliced (backTo pos (starEach es X.env))) (fun vs s₃ => ∃ vs' H', Inv X pins σ H' s₃ ∧ Vals vs' (here ++ vs) ∧ Q vs' H') X.xe s₂) X.xe { s1 with heap := s1.heap.push { cls := .type "dict_values", data := .fields #[.ref d] } } := by
    refine PySem.W.kdu_collect (A := X.A) (PySem.W.kdl_values (knd := mixKind X.prog X.w) (kvs := vs) (ep := ep)) (I1.ok.hd hcalm) ⟨hview, hm.push _⟩ (by rw [← hl]; exact z) fun h' tk acc hk hacc => ?_
    have hv : Vals (kvs.map (·.2)) acc.toList := kvals_at rel _ (by rw [Array.length_toList]; exact hacc.1) fun j v e => hacc.2 j v (by rw [← Array.getElem?_toList]; exact e)
    have I3 : Inv X pins σ H1 { s1 with heap := h', toks := tk } := I2.kept hk
    exact thn (hr.run pos pins _ σ H1 _ I3 q) fun ws s3 ⟨vs', H3, I4, r3, q3⟩ => ⟨_, H3, I4, hv.append r3, q3⟩
  show PySem.W.StarOf _ _ _ _ _ _
  unfold PySem.W.StarOf notIterableAtAll
  exact wpAny_bind (wpAny_specialOf hview.typeIs F.slot_dict_values_iter.lookup (wpAny_pure ⟨rfl, zz⟩))
def aStarV (i : Nat) (g : Am) : Am := fun ρ => (dicS i ρ).bind fun p => (g p.2).map fun q => (p.1.map (fun kv => RV.val kv.2) ++ q.1, q.2)
theorem rrvs_valK {K : PySem.W.Frag} {A : AS} {H : Hp} {σ : L2.St} : ∀ {ks : List (Key × V)} {kvs : List (DK × D)}, RpK K cm A H ks kvs → RRVs K cm A H σ (ks.map (·.2)) (kvs.map fun kv => RV.val kv.2)
  | _, _, .nil => .nil
  | _, _, .cons h r => .cons h (rrvs_valK r)
theorem fa_starV {i : Nat} {g : Am} {pos1 : Pos} (hcalm : X.calm = true) (he : PE X e (tVar i)) (hr : FA X cm es g) (hbase : attributeBase e "values" X.env (eval e X.env) = eval e X.env := by rfl) (hline : (apos.endLine == cpos.line) = true := by rfl)
    (hs : starEach (.Starred (.Call (.Attribute e "values" apos) [] [] cpos) pos1 :: es) X.env = (true, eval (.Call (.Attribute e "values" apos) [] [] cpos) X.env) :: starEach es X.env := by rfl) :
    FA X cm (.Starred (.Call (.Attribute e "values" apos) [] [] cpos) pos1 :: es) (aStarV i g) :=
  (pa_starV hcalm he hr hbase hline hs).imp fun σ H Q ⟨C, A, ρ, t, ρ', R, q, k⟩ => by
    unfold aStarV at q
    simp only [Option.bind_eq_some_iff, Option.map_eq_some_iff] at q
    obtain ⟨⟨kvs, ρ1⟩, h0, ⟨rs, ρ2⟩, h3, h4⟩ := q
    cases h4
    obtain ⟨A1, d, ks, l1, R1, hv, hd, hn, hk⟩ := dicS_ok R h0
    exact ⟨_, hv, d, ks, rfl, hd, C, A1, ρ1, rs, _, R1, h3, fun vs H2 A2 l2 R2 w2 => k _ H2 A2 (l1.trans l2) R2 (rrvs_app (rrvs_valK (hk.later l2.l)) w2)⟩
end
end G

set_option maxHeartbeats 2000000
/-! La47: len(set(tuple of ints)). -/
namespace G
open PySem PySem.Spec L2 PyProof.Rows
def dis : List Int → List Int
  | [] => []
  | x :: r => if x ∈ dis r then dis r else x :: dis r
theorem dis_nd : ∀ l : List Int, (dis l).Nodup
  | [] => List.nodup_nil
  | x :: r => by
    unfold dis
    split
    · exact dis_nd r
    · rename_i h
      exact List.nodup_cons.mpr ⟨h, dis_nd r⟩
theorem dis_mem : ∀ (l : List Int) (y : Int), y ∈ dis l ↔ y ∈ l
  | [], _ => Iff.rfl
  | x :: r, y => by
    unfold dis
    split
    · rename_i h
      rw [dis_mem r y, List.mem_cons]
      refine ⟨.inr, fun z => z.elim (fun e => ?_) id⟩
      rw [e]; exact (dis_mem r x).mp h
    · rw [List.mem_cons, List.mem_cons, dis_mem r y]
theorem dis_len {l m : List Int} (n : m.Nodup) (h : ∀ k, k ∈ m ↔ k ∈ l) : m.length = (dis l).length :=
  ((List.perm_ext_iff_of_nodup n (dis_nd l)).mpr fun k => (h k).trans (dis_mem l k).symm).length_eq
section
variable {X : Cx} {cm : Cm}
def tLenSetT (K : PySem.W.Frag) (ta : TE) : TE := fun σ H Q => ta σ H fun x H1 => ∃ (l : Addr) (ns : List Int), x = V.ref l ∧ SqT K H1 l (ns.map V.int) ∧ ns.length < 64 ∧ Q (.int (dis ns).length) H1
theorem pe_lenSetT {a : Expr} {ta : TE} {p p2 q pos : Pos} (hc : X.calm = true) (hg : Gl X "len") (hm : X.mg "len" = none) (hg2 : Gl X "set") (hm2 : X.mg "set" = none) (ha : PE X a ta)
    (na : starEach [a] X.env = (false, eval a X.env) :: starEach [] X.env := by rfl) : PE X (.Call (.Name "len" p) [.Call (.Name "set" p2) [a] [] q] [] pos) (tLenSetT X.K ta) := by
  refine ⟨fun pins s σ H Q I h => ?_⟩
  refine Call_ (ld_blt I hg hm PySem.boot_len ?_)
  refine PyProof.Rows.callWith_builtin1 (PyProof.Rows.args_cons ?_ rfl) rfl rfl
  refine Call_ (ld_blt I hg2 hm2 PyProof.Rows.boot_set ?_)
  refine PyProof.Rows.callWith_type1 (PyProof.Rows.args_cons (thn (ha.run pins s σ H _ I h) fun v s1 ⟨x, H1, I1, r1, q1⟩ => PyProof.Rows.args_nil ?_) na) na rfl
  obtain ⟨l, ns, rfl, hq, h1, q1⟩ := q1
  cases r1
  obtain ⟨its, r, pl, hz⟩ := I1.tuple hq
  refine call_set_tupI ns (I1.ok.hd hc) pl (by simpa using r.ints) (by unfold scanBound; omega) fun h' tk c hS hcl hk => ?_
  refine PyProof.Rows.args_nil ?_
  obtain ⟨o, es, ep, t, ho, hex, hd, g, nd, hmem, hb, hf, hn, _⟩ := hS
  have I2 : Inv X pins σ H1 { s1 with heap := h', toks := tk } := I1.kept hk
  have e1 : es.size = (dis ns).length := by
    have := dis_len (l := ns) nd fun k => (hmem k).symm.trans (by simp)
    rw [List.length_map, Array.length_toList] at this
    exact this
  refine call_len_set ho hex hd hf (by rw [hn]; omega) ⟨.int (dis ns).length, H1, I2.tok _, ⟨_, by rw [e1]⟩, q1⟩
def eLenSetT (f : Em) : Em := fun ρ => (f ρ).bind fun p => (rd p.2 p.1).bind fun d => match d with
  | .tup ds => (intL ds).bind fun ns => if ns.length < 64 then some (.val (.int (dis ns).length), p.2) else none
  | _ => none
theorem fe_lenSetT {f : Em} {a : Expr} {p p2 q pos : Pos} (hc : X.calm = true) (hg : Gl X "len") (hm : X.mg "len" = none) (hg2 : Gl X "set") (hm2 : X.mg "set" = none) (ha : FE X cm a f)
    (na : starEach [a] X.env = (false, eval a X.env) :: starEach [] X.env := by rfl) : FE X cm (.Call (.Name "len" p) [.Call (.Name "set" p2) [a] [] q] [] pos) (eLenSetT f) :=
  (pe_lenSetT hc hg hm hg2 hm2 ha na).imp fun σ H Q ⟨C, A, ρ, t, ρ', R, q, kk⟩ => by
  unfold eLenSetT at q
  simp only [Option.bind_eq_some_iff] at q
  obtain ⟨⟨r, ρ1⟩, h1, d, h2, h3⟩ := q
  dsimp only at h3
  split at h3
  · rename_i ds
    rw [Option.bind_eq_some_iff] at h3
    obtain ⟨ns, e1, h3⟩ := h3
    split at h3
    · rename_i hz
      cases h3
      refine ⟨C, A, ρ, r, _, R, h1, fun v H1 A1 l1 R1 w1 => ?_⟩
      obtain ⟨a, xs, rfl, hs, rl⟩ := (rd_ok R1 w1 h2).tup
      have e2 := rl.intL e1
      subst e2
      exact ⟨a, ns, rfl, hs, hz, kk _ _ _ l1 R1 (.int _)⟩
    · cases h3
  · cases h3
end
end G

set_option maxHeartbeats 2000000
/-! La48: defs that make lambdas: their code objects; the end with tables. -/
namespace G
open PySem PySem.Spec L2 LamX PyProof.Rows
section
variable {P : Program} {w : World} {K : PySem.W.Frag} {mg : Str → Option Value} {base : Heap} {cm : Cm}
theorem fun_okT {x qual : Str} {st : Stmt} {f : Addr} {fd : FuncData} {N ps : List Str} {k : Nat} {sp : Sp} (F : Fun K x qual st f fd) (S : FnScope N ps (defScope st)) (len : ∀ vs H Q E, sp vs H Q E → vs.length = ps.length)
    (hbody : ∀ (A : Around) (outer : List Env) (s : Shared) (H : Hp) (vs : List V) (Q : VK) (E : XK), Room k (A.deeper (envOfC qual (defScope st) s.heap.objs.size f fd.code)) → sp vs H Q E →
      ∃ t, PSs (cxOf CX0 P w K mg base N qual (defScope st) f fd.code A outer s H E).nox (defBody st) t ∧ t { nx := fun _ H' => Q .non H', rt := Q } (start N vs) H) : FnOk P w K mg base CX0 (k + 1) f fd ps sp := by
  obtain ⟨oc, od, kV, doc, pm, an, cdv, ct, osl, rfl, lk, hcd⟩ := F.ex
  refine fn_of lk hcd S len fun A outer s H vs Q E hr hsp => ?_
  obtain ⟨t, h, q⟩ := hbody A outer s H vs Q E hr hsp
  exact ⟨t, h.nox, q⟩
theorem fd_okT {x qual : Str} {st : Stmt} {f : Addr} {fd : FuncData} {N ps : List Str} {k : Nat} {g : Sm} (F : Fun K x qual st f fd) (S : FnScope N ps (defScope st))
    (hb : ∀ (A : Around) (outer : List Env) (s : Shared) (H : Hp) (E : XK), Room k (A.deeper (envOfC qual (defScope st) s.heap.objs.size f fd.code)) → FSs (cxOf CX0 P w K mg base N qual (defScope st) f fd.code A outer s H E).nox cm (defBody st) g) :
    FnG P w K mg base cm (k + 1) f fd ps (runD (N.length - ps.length) g) := by
  refine fun_okT F S (fun vs H Q E h => h.1) fun A outer s H vs Q E hr ⟨hl, Pw, A', ss, t, ss', R, q, kk⟩ => ⟨_, hb A outer s H E hr, ?_⟩
  unfold runD at q
  rw [Option.bind_eq_some_iff] at q
  obtain ⟨o, q1, q2⟩ := q
  have hs : ss.length = vs.length := by have := R.len; simpa using this.symm
  have R0 := R.ext (N.length - vs.length)
  rw [← hl] at q1
  refine ⟨_, A', _, o, R0, q1, ?_⟩
  cases o with
  | nx ρ =>
    cases q2
    exact fun σ1 H1 A1 l1 R1 => kk _ H1 A1 [] _ l1 (R1.take ss.length) (RT.pure .non) .nil fun a m => nomatch m
  | rt t' ρ =>
    cases q2
    exact fun v σ1 H1 A1 F l1 R1 rt hn hF => kk v H1 A1 F _ l1 (R1.take ss.length) rt hn hF
  | bk ρ => cases q2
  | ct ρ => cases q2
/-- a def as the top wrote it, its code object at c with the table at P -/
theorem dn_mkC {h : Heap} (X : K.In h) (G : h.Ns mainGlobals mg) {x : Str} {st : Stmt} {ps : List Str} {f : Addr} {oc : Value} {od an : Option Addr} {osl : Array (Option Value)} {kV doc pm ct : Value} {c P : Addr}
    (a : PySem.W.nsIn K mainGlobals x = some (some (.ref f))) (l : K.lookup f = some ⟨oc, od, .func (PySem.W.fnOf x x (defArgs st) (defBody st) (defScope st) .none kV doc pm an (.ref c) ct), osl⟩) (cc : PySem.W.codeIn K (.ref c) x = true) (k : PySem.W.keepIn K (.ref f) = true)
    (b : ∀ (kV doc pm : Value) (an : Option Addr) (cdv ct : Value) (us : List Value), us.length = ps.length → bindArgs (PySem.W.fnOf x x (defArgs st) (defBody st) (defScope st) .none kV doc pm an cdv ct) ⟨us, []⟩ = pure (ps.zip us))
    (hP : PySem.W.codeHdIn K c P = true) : ∃ f fd c, Dn K mg x st ps f fd ∧ fd.code = .ref c ∧ PySem.W.codeHdIn K c P = true := ⟨f, _, c, ⟨fun_mk l cc k, PySem.W.mg_of X G a, b _ _ _ _ _ _⟩, rfl, hP⟩
/-- the end, with tables -/
theorem law_atS {l : PySem.W.OpenLaw} {n k : Nat} {x : Str} {fa : Addr} {fd : FuncData} {h : Heap} {m : Rho → Option (T × Rho)} {ts : List Addr} (cs : List (Addr × Addr)) (hT : ∀ P ∈ ts, h.get? P = some (PySem.W.tabObj #[])) (KX : K.In h)
    (hts : ∀ p ∈ cs, p.2 ∈ ts) (hK : ∀ p ∈ cs, K.lookup p.2 = none) (hcd : ∀ p ∈ cs, PySem.W.codeHdIn K p.1 p.2 = true) (hcm : ∀ q ∈ cm.T, q.1 ∈ cs.map (·.2)) (bb : ∀ (s : Shared) (u : Value), BindsTo s fd ⟨[u], []⟩ [(x, u)])
    (hlaw : ∀ ns : List Int, ns.length ≤ n → (m [.v (.p (.lst (ns.map D.int)))]).map (·.1) = some (.p (.bl true)))
    (F : ∀ base : Heap, (∀ p ∈ cs, TabB base mg p.1 p.2) → FnOk l.prog w K mg base CX0 k fa fd [x] (spG K cm 1 m)) : LawAtS l w K CX0 k n x mg fa h :=
  ⟨fd, cs, spG K cm 1 m, fun p hp => hT _ (hts p hp), hK, fun p hp => PySem.W.codeHd_of_K KX (hcd p hp), bb, fun H a ns hl _ hH hS => law_sp hS (fun q hq => by
    obtain ⟨p, hp, e⟩ := List.mem_map.mp (hcm q hq)
    have := hH p hp
    rw [e] at this
    exact TabS.nil this) (hlaw ns hl) _, fun base _ _ hTB => F base hTB⟩
end
end G

set_option maxHeartbeats 2000000
/-! La49: name = [.. for .. in a dict], on one line. -/
namespace G
open PySem PySem.Spec L2 PyProof.Rows
section
variable {X : Cx} {cm : Cm} {pos tpos apos cpos spos py : Pos} {elt e c tg : Expr} {ifs elts : List Expr} {kk : Nat}
theorem lcI_core {K : PySem.W.Frag} {i : Nat} {own is : List Nat} {h : D → Rho → Option Rho} {g : Bm} {el : Em} {σ : L2.St} {H : Hp} {Q : VK} (hsub : ∀ i ∈ is, i ∈ own) (hh : tN K cm (nLc own (iItm i) h g el) σ H Q) :
    tLockE (tLc (iItems (tVar i)) (tG K cm is h) (tT K cm g) (tE K cm el) own) σ H Q ∨ tLc (iItems (tVar i)) (tG K cm is h) (tT K cm g) (tE K cm el) own σ H Q := by
    obtain ⟨C, A, ρ, t, ρ', R, q, k⟩ := hh
    unfold nLc iItm at q
    simp only [Option.bind_eq_some_iff, Option.map_eq_some_iff] at q
    obtain ⟨⟨ds, ρ1⟩, ⟨⟨kvs, ρ1'⟩, h0, h0'⟩, q⟩ := q
    cases h0'
    dsimp only at q
    split at q
    rotate_left
    · cases q
    rename_i hbig
    simp only [Option.bind_eq_some_iff, Option.map_eq_some_iff] at q
    obtain ⟨ρw, h2, ⟨all, ρ2⟩, h3, h4⟩ := q
    cases h4
    obtain ⟨A1, d, ks, l1, R1, hv, hd, hn, hk⟩ := dicS_ok R h0
    rcases hd with hd | ⟨od, hd⟩
    · refine .inl ⟨d, .dK ks, hd, trivial, fun od => ?_⟩
      have s : Sw d ks H (upd H d (.frz od (.dK ks))) := ⟨.inl hd, .inr ⟨od, upd_same⟩, fun x q => upd_ne q⟩
      have R2 := R1.sw (o := .frz od (.dK ks)) s hn
      refine tLc_core (C := C.sw d (.frz od (.dK ks))) (A := A1) hsub (fun R' hR => ⟨_, hv, d, od, ks, rfl, upd_same, hR _ _ A1 _ (.refl _ _) R2 it_items ⟨upd_same, hn, hk.sw s⟩⟩) hbig h2 h3 fun v H' A' F l2 R3 rt hnd hF => ?_
      have hd' : H' d = some (.frz od (.dK ks)) := l2.l.st _ _ upd_same pl_frz.1 hn
      have hn' : ¬ A' d := (l2.l.rd (.inl upd_same) hn).2
      have s' : Sw d ks H' (upd H' d (.dK ks)) := ⟨.inr ⟨od, hd'⟩, .inl upd_same, fun x q => upd_ne q⟩
      refine ⟨hd', k v _ A' F (l1.trans (Lt.unsw (ks := ks) hd hn (fun z => hn (R1.out d z)) l2)) (R3.unsw s' hn' fun x e tn np => ?_) (rt.sw s' fun m => hn' (hF d m).2.1) hnd fun a m => ⟨sw_none.mp (hF a m).1, (hF a m).2⟩⟩
      have := R1.fr d x e tn np
      rw [hd] at this; cases this; rfl
    · refine .inr (tLc_core (C := C) (A := A1) hsub (fun R' hR => ⟨_, hv, d, od, ks, rfl, hd, hR _ _ A1 _ (.refl _ _) R1 it_items ⟨hd, hn, hk⟩⟩) hbig h2 h3 fun v H' A' F l2 R3 rt hnd hF => k v H' A' F (l1.trans l2) R3 rt hnd hF)
theorem lcK_core {K : PySem.W.Frag} {i : Nat} {own is : List Nat} {h : D → Rho → Option Rho} {g : Bm} {el : Em} {σ : L2.St} {H : Hp} {Q : VK} (hsub : ∀ i ∈ is, i ∈ own) (hh : tN K cm (nLc own (iKey i) h g el) σ H Q) :
    tLockE (tLc (iKeys (tVar i)) (tG K cm is h) (tT K cm g) (tE K cm el) own) σ H Q ∨ tLc (iKeys (tVar i)) (tG K cm is h) (tT K cm g) (tE K cm el) own σ H Q := by
    obtain ⟨C, A, ρ, t, ρ', R, q, k⟩ := hh
    unfold nLc iKey at q
    simp only [Option.bind_eq_some_iff, Option.map_eq_some_iff] at q
    obtain ⟨⟨ds, ρ1⟩, ⟨⟨kvs, ρ1'⟩, h0, h0'⟩, q⟩ := q
    cases h0'
    dsimp only at q
    split at q
    rotate_left
    · cases q
    rename_i hbig
    simp only [Option.bind_eq_some_iff, Option.map_eq_some_iff] at q
    obtain ⟨ρw, h2, ⟨all, ρ2⟩, h3, h4⟩ := q
    cases h4
    obtain ⟨A1, d, ks, l1, R1, hv, hd, hn, hk⟩ := dicS_ok R h0
    rcases hd with hd | ⟨od, hd⟩
    · refine .inl ⟨d, .dK ks, hd, trivial, fun od => ?_⟩
      have s : Sw d ks H (upd H d (.frz od (.dK ks))) := ⟨.inl hd, .inr ⟨od, upd_same⟩, fun x q => upd_ne q⟩
      have R2 := R1.sw (o := .frz od (.dK ks)) s hn
      refine tLc_core (C := C.sw d (.frz od (.dK ks))) (A := A1) hsub (fun R' hR => ⟨_, hv, d, od, rfl, .inl ⟨ks, upd_same, hR _ _ A1 _ (.refl _ _) R2 it_keys ⟨upd_same, hn, hk.sw s⟩⟩⟩) hbig h2 h3 fun v H' A' F l2 R3 rt hnd hF => ?_
      have hd' : H' d = some (.frz od (.dK ks)) := l2.l.st _ _ upd_same pl_frz.1 hn
      have hn' : ¬ A' d := (l2.l.rd (.inl upd_same) hn).2
      have s' : Sw d ks H' (upd H' d (.dK ks)) := ⟨.inr ⟨od, hd'⟩, .inl upd_same, fun x q => upd_ne q⟩
      refine ⟨hd', k v _ A' F (l1.trans (Lt.unsw (ks := ks) hd hn (fun z => hn (R1.out d z)) l2)) (R3.unsw s' hn' fun x e tn np => ?_) (rt.sw s' fun m => hn' (hF d m).2.1) hnd fun a m => ⟨sw_none.mp (hF a m).1, (hF a m).2⟩⟩
      have := R1.fr d x e tn np
      rw [hd] at this; cases this; rfl
    · refine .inr (tLc_core (C := C) (A := A1) hsub (fun R' hR => ⟨_, hv, d, od, rfl, .inl ⟨ks, hd, hR _ _ A1 _ (.refl _ _) R1 it_keys ⟨hd, hn, hk⟩⟩⟩) hbig h2 h3 fun v H' A' F l2 R3 rt hnd hF => k v H' A' F (l1.trans l2) R3 rt hnd hF)
theorem fs_setLcK {i j : Nat} {y : Str} {own : List (Str × Nat)} {scope : Scope} {is : List Nat} {h : D → Rho → Option Rho} {g : Bm} {el : Em} (hc : X.calm = true) (hN : X.N.Nodup) (hy : X.N[i]? = some y) (hyl : X.env.scope.names.lookup y = some .local)
    (hsw : swapsWith (.ListComp elt [⟨tg, e, ifs, 0⟩] scope pos) (some (.Name y py)) spos.line X.env = pure true) (ho : PE X e (tVar j)) (ok : BlkOk X.N X.env.scope scope own)
    (hg : ∀ (s : Shared) (H : Hp) (C : Addr) (cl : List (Str × Addr)) (fp : List Addr), FG (X.blk s H scope (compEnvC scope cl C X.env) fp) cm tg is h) (ht : ∀ (s : Shared) (H : Hp) (C : Addr) (cl : List (Str × Addr)) (fp : List Addr), FTs (X.blk s H scope (compEnvC scope cl C X.env) fp) cm ifs g)
    (he : ∀ (s : Shared) (H : Hp) (C : Addr) (cl : List (Str × Addr)) (fp : List Addr), FE (X.blk s H scope (compEnvC scope cl C X.env) fp) cm elt el) (hsub : ∀ i ∈ is, i ∈ own.map (·.2)) (hs : ∀ x, foldedSetIterable e X.env x = pure x := by intro _; rfl) :
    FS X cm (.Assign [.Name y py] (.ListComp elt [⟨tg, e, ifs, 0⟩] scope pos) spos) (sAsg i (nLc (own.map (·.2)) (iKey j) h g el)) :=
  have p : PS X (.Assign [.Name y py] (.ListComp elt [⟨tg, e, ifs, 0⟩] scope pos) spos) (tAsg (tLc (iKeys (tVar j)) (tG X.K cm is h) (tT X.K cm g) (tE X.K cm el) (own.map (·.2))) (gName i)) := ps_setLc hc hN hy hyl hsw (pi_keys ho) ok hg ht he hs
  ⟨fun pins s σ H D I q => (lcK_core hsub (sAsg_of q)).elim (fun z => (ps_lock p).run pins s σ H D I z) (fun z => p.run pins s σ H D I z)⟩
theorem fs_setLcI {i j : Nat} {y : Str} {own : List (Str × Nat)} {scope : Scope} {is : List Nat} {h : D → Rho → Option Rho} {g : Bm} {el : Em} (hc : X.calm = true) (hN : X.N.Nodup) (hy : X.N[i]? = some y) (hyl : X.env.scope.names.lookup y = some .local)
    (hsw : swapsWith (.ListComp elt [⟨(.Tuple elts kk tpos), (.Call (.Attribute e "items" apos) [] [] cpos), ifs, 0⟩] scope pos) (some (.Name y py)) spos.line X.env = pure true) (ho : PE X e (tVar j)) (ok : BlkOk X.N X.env.scope scope own)
    (hg : ∀ (s : Shared) (H : Hp) (C : Addr) (cl : List (Str × Addr)) (fp : List Addr), FG (X.blk s H scope (compEnvC scope cl C X.env) fp) cm (.Tuple elts kk tpos) is h) (ht : ∀ (s : Shared) (H : Hp) (C : Addr) (cl : List (Str × Addr)) (fp : List Addr), FTs (X.blk s H scope (compEnvC scope cl C X.env) fp) cm ifs g)
    (he : ∀ (s : Shared) (H : Hp) (C : Addr) (cl : List (Str × Addr)) (fp : List Addr), FE (X.blk s H scope (compEnvC scope cl C X.env) fp) cm elt el) (hsub : ∀ i ∈ is, i ∈ own.map (·.2))
    (hbase : attributeBase e "items" X.env (eval e X.env) = eval e X.env := by rfl) (hline : (apos.endLine == cpos.line) = true := by rfl) (hs : ∀ x, foldedSetIterable (.Call (.Attribute e "items" apos) [] [] cpos) X.env x = pure x := by intro _; rfl) :
    FS X cm (.Assign [.Name y py] (.ListComp elt [⟨.Tuple elts kk tpos, (.Call (.Attribute e "items" apos) [] [] cpos), ifs, 0⟩] scope pos) spos) (sAsg i (nLc (own.map (·.2)) (iItm j) h g el)) :=
  have p : PS X (.Assign [.Name y py] (.ListComp elt [⟨.Tuple elts kk tpos, (.Call (.Attribute e "items" apos) [] [] cpos), ifs, 0⟩] scope pos) spos) (tAsg (tLc (iItems (tVar j)) (tG X.K cm is h) (tT X.K cm g) (tE X.K cm el) (own.map (·.2))) (gName i)) := ps_setLc hc hN hy hyl hsw (pi_items ho hbase hline) ok hg ht he hs
  ⟨fun pins s σ H D I q => (lcI_core hsub (sAsg_of q)).elim (fun z => (ps_lock p).run pins s σ H D I z) (fun z => p.run pins s σ H D I z)⟩
end
theorem hu3 {A : Around} {k : Nat} (hr : Room k A) : A.units + 3 < cLine := Nat.lt_of_le_of_lt (Nat.add_le_add_left (by decide : 3 ≤ 64) _) hr.units
theorem maxR_mem' (d : D) (ds : List D) : maxR d ds ∈ d :: ds := maxR_mem d ds
theorem minR_mem' (d : D) (ds : List D) : minR d ds ∈ d :: ds := minR_mem d ds
end G

/-! La50: captured names, by a look. -/
namespace G
open PySem PySem.Spec L2
theorem free_by {ns es : List (Str × NameKind)} (h : (ns.all fun y => !decide (y.2 = .free) || decide (es.lookup y.1 = some .cell) || decide (es.lookup y.1 = some .free)) = true) : ∀ y ∈ ns, y.2 = .free → es.lookup y.1 = some .cell ∨ es.lookup y.1 = some .free := fun y hy e => by
  have := List.all_eq_true.mp h y hy
  simp only [Bool.or_eq_true, Bool.not_eq_true', decide_eq_true_eq, decide_eq_false_iff_not] at this
  rcases this with (z | z) | z
  · exact absurd e z
  · exact .inl z
  · exact .inr z
end G

set_option maxHeartbeats 2000000
/-! La51: [.. for .. in one's own dict]: the dict stays one's own, if what is made is scalar. -/
namespace G
open PySem PySem.Spec L2 PyProof.Rows
def scD : D → Bool
  | .non => true
  | .bl _ => true
  | .int _ => true
  | .str _ => true
  | _ => false
def scT : T → Bool
  | .p d => scD d
  | .ls ds => ds.all scD
  | _ => false
def thA (own : Bool) (kvs : List (DK × D)) (a b : Sl) : Option Sl := if own then some (.v (.di kvs)) else match a with
  | .no => some .no
  | .v (.p d) => some (.v (.p d))
  | .v _ => (match b with
    | .v t => if scT t then some (.v t) else none
    | _ => none)
  | .pin _ => (match b with
    | .pin t => if scT t then some (.pin t) else none
    | _ => none)
def thaw (i : Nat) (kvs : List (DK × D)) (j : Nat) : Rho → Rho → Option Rho
  | a :: as, b :: bs => (thA (j == i) kvs a b).bind fun s => (thaw i kvs (j + 1) as bs).map fun r => s :: r
  | [], [] => some []
  | _, _ => none
theorem thaw_at {i : Nat} {kvs : List (DK × D)} : ∀ {as bs : Rho} {j : Nat} {r : Rho}, thaw i kvs j as bs = some r → r.length = as.length ∧ bs.length = as.length ∧ ∀ m s, r[m]? = some s → ∃ a b, as[m]? = some a ∧ bs[m]? = some b ∧ thA (j + m == i) kvs a b = some s
  | [], [], j, r, e => by cases e; exact ⟨rfl, rfl, fun m s h => by simp at h⟩
  | [], _ :: _, j, r, e => by cases e
  | _ :: _, [], j, r, e => by cases e
  | a :: as, b :: bs, j, r, e => by
    simp only [thaw, Option.bind_eq_some_iff, Option.map_eq_some_iff] at e
    obtain ⟨s, e1, r', e2, rfl⟩ := e
    obtain ⟨h1, h2, h3⟩ := thaw_at e2
    refine ⟨by simp [h1], by simp [h2], fun m s' h => ?_⟩
    cases m with
    | zero => simp at h; subst h; exact ⟨a, b, rfl, rfl, e1⟩
    | succ m =>
      obtain ⟨a', b', x1, x2, x3⟩ := h3 m s' (by simpa using h)
      refine ⟨a', b', by simpa using x1, by simpa using x2, ?_⟩
      rw [show j + (m + 1) = j + 1 + m by omega]
      exact x3
section
variable {K : PySem.W.Frag} {cm : Cm} {A A' : AS} {H H' : Hp} {C : Fc} {σ : L2.St} {ρ ρ' ρ2 : Rho} {Y : List Addr}
theorem rp_sc {d : D} {v : V} (h : scD d = true) (r : Rp K cm A H v d) : Rp K cm A' H v d := by
  cases r <;> first | exact .non | exact .bl _ | exact .int _ | exact .str _ | cases h
theorem rpl_sc : ∀ {ds : List D} {vs : List V}, ds.all scD = true → RpL K cm A H vs ds → RpL K cm A' H vs ds
  | _, _, _, .nil => .nil
  | _, _, h, .cons r rs => by
    simp only [List.all_cons, Bool.and_eq_true] at h
    exact .cons (rp_sc h.1 r) (rpl_sc h.2 rs)
theorem rt_sc {t : T} {v : V} {F : List Addr} (h : scT t = true) (r : RT K cm A H v t F) : RT K cm A' H v t F := by
  cases t with
  | p d => exact ⟨r.1, rp_sc h r.2⟩
  | ls ds =>
    obtain ⟨b, xs, e1, e2, e, r⟩ := r
    exact ⟨b, xs, e1, e2, e, rpl_sc h r⟩
  | _ => cases h
def ownS : Option Sl → Bool
  | some (.v (.p _)) => false
  | some (.v _) => true
  | some (.pin _) => true
  | _ => false
theorem RS.thaw {i : Nat} {d : Addr} {ks : List (Key × V)} {kvs : List (DK × D)} (R : RS K cm C A [] σ H ρ) (e : ρ[i]? = some (.v (.di kvs))) (hv : σ[i]? = some (some (.ref d))) (R3 : RS K cm C A' Y σ H' ρ') (l : Lt C A H A' H') (hd : H' d = some (.dK ks)) (hA : A d)
    (hk : RpK K cm A H ks kvs) (hn : ¬ A' d) (hY : ∀ a ∈ Y, A' a) (th : thaw i kvs 0 ρ ρ' = some ρ2) : Lt C A H (fun a => A' a ∨ a = d) H' ∧ RS K cm C (fun a => A' a ∨ a = d) Y σ H' ρ2 := by
  obtain ⟨F, h1, h2, h3, h4, h5⟩ := R.sl
  obtain ⟨G, g1, g2, g3, g4, g5⟩ := R3.sl
  obtain ⟨t1, t2, t3⟩ := thaw_at th
  obtain ⟨o, x1, v, rfl, ⟨b, xs, rfl, eF, hb, _⟩, f⟩ := h5 i _ e
  rw [hv] at x1; cases x1
  have l2 : Lt C A H (fun a => A' a ∨ a = d) H' := ⟨⟨l.l.st, fun a z => z.elim (l.l.nw a) fun z => .inl (by rw [z]; exact hA), l.l.dm⟩, l.o⟩
  have hd0 : d ∈ F i := by rw [eF]; simp
  have hA0 : ¬ C.A0 d := (h3 i d hd0).2.1
  have nG : ∀ m, d ∉ G m := fun m z => hn (g3 m d z).1
  refine ⟨l2, ⟨by rw [t1]; exact R.len, ⟨fun m => if m = i then [d] else if ownS ρ[m]? then G m else [], fun m => ?_, fun m m' a ha ha' => ?_, fun m a ha => ?_, fun m hm => ?_, fun m s hs => ?_⟩, fun a z => .inl (R3.out a z), fun a z => ?_, fun a z => ?_, R3.fr, R3.fd, R3.tb, fun a z φ => ?_⟩⟩
  · dsimp only
    split
    · exact List.nodup_cons.mpr ⟨fun z => (nomatch z), List.nodup_nil⟩
    · split
      · exact g1 m
      · exact List.nodup_nil
  · dsimp only at ha ha'
    split at ha
    · rename_i q
      split at ha'
      · rename_i q'; rw [q, q']
      · split at ha'
        · obtain rfl : a = d := by simpa using ha
          exact absurd ha' (nG m')
        · cases ha'
    · split at ha
      · split at ha'
        · obtain rfl : a = d := by simpa using ha'
          exact absurd ha (nG m)
        · split at ha'
          · exact g2 m m' a ha ha'
          · cases ha'
      · cases ha
  · dsimp only at ha
    split at ha
    · obtain rfl : a = d := by simpa using ha
      exact ⟨.inr rfl, hA0, fun z => hn (hY a z)⟩
    · split at ha
      · have := g3 m a ha
        exact ⟨.inl this.1, this.2⟩
      · cases ha
  · dsimp only
    have hl : ρ[m]? = none := by
      rw [List.getElem?_eq_none_iff] at hm ⊢
      omega
    split
    · rename_i q
      rw [q, e] at hl; cases hl
    · rw [hl]
      rfl
  · obtain ⟨a, b, y1, y2, y3⟩ := t3 m s hs
    obtain ⟨o, z1, z2⟩ := h5 m a y1
    refine ⟨o, z1, ?_⟩
    dsimp only
    unfold thA at y3
    split at y3
    · rename_i q
      have q' : m = i := by simpa using q
      cases y3
      rw [if_pos q']
      rw [q', hv] at z1; cases z1
      exact ⟨_, rfl, ⟨d, ks, rfl, rfl, hd, hk.later l2.l⟩, fun a m => by
        obtain rfl : a = d := by simpa using m
        exact f a hd0⟩
    · rename_i q
      have q' : ¬ m = i := by simpa using q
      rw [if_neg q', y1]
      split at y3
      · cases y3; rfl
      · rename_i dd
        cases y3
        obtain ⟨v, e1, r, f'⟩ := z2
        exact ⟨v, e1, ⟨rfl, r.2.later l2.l⟩, fun a m => nomatch m⟩
      · rename_i t0 hne
        split at y3
        · rename_i tt
          split at y3
          · rename_i hsc
            cases y3
            obtain ⟨o', w1, w2⟩ := g5 m _ y2
            rw [z1] at w1; cases w1
            obtain ⟨v, e1, r, f'⟩ := w2
            have ho : ownS (some (.v t0)) = true := by
              cases t0 with
              | p dd => exact absurd rfl (hne dd)
              | _ => rfl
            rw [if_pos ho]
            exact ⟨v, e1, rt_sc hsc r, f'⟩
          · cases y3
        · cases y3
      · split at y3
        · split at y3
          · rename_i hsc
            cases y3
            obtain ⟨o', w1, w2⟩ := g5 m _ y2
            rw [z1] at w1; cases w1
            obtain ⟨v, e1, e2, r, f'⟩ := w2
            exact ⟨v, e1, e2, rt_sc hsc r, f'⟩
          · cases y3
        · cases y3
  · rcases z with z | z
    · exact R3.sub a z
    · exact .inr (.inr (by rw [z]; exact f d hd0))
  · rcases z with z | z
    · exact R3.dom a z
    · rw [z, hd]; exact fun z => nomatch z
  · rcases z with z | z
    · exact R3.ne a z φ
    · rw [z, hd]; exact fun z => nomatch z
end
end G

set_option maxHeartbeats 2000000
/-! La52: comprehensions over one's own dict: the rules. -/
namespace G
open PySem PySem.Spec L2 PyProof.Rows
/-- [.. for .. in the own dict of slot i], scalars made -/
def nLcO (own : List Nat) (wk : List (DK × D) → List D) (i : Nat) (h : D → Rho → Option Rho) (g : Bm) (el : Em) : Rho → Option (T × Rho) := fun ρ => match ρ[i]? with
  | some (.v (.di kvs)) => (frzS i ρ).bind fun ρ1 => if (wk kvs).length ≤ big then (wipeS own ρ1).bind fun ρw => (lcF own h g el (wk kvs) ρw).bind fun r => if scT (.ls r.1) then (thaw i kvs 0 ρ (back ρ1 r.2 own)).map fun ρ2 => (.ls r.1, ρ2) else none else none
  | _ => none
section
variable {X : Cx} {cm : Cm} {pos tpos apos cpos spos py : Pos} {elt e c tg : Expr} {ifs elts : List Expr} {kk : Nat}
theorem lcOK_core {K : PySem.W.Frag} {i : Nat} {own is : List Nat} {h : D → Rho → Option Rho} {g : Bm} {el : Em} {σ : L2.St} {H : Hp} {Q : VK} (hsub : ∀ i ∈ is, i ∈ own) (hh : tN K cm (nLcO own keysD i h g el) σ H Q) :
    tLockE (tLc (iKeys (tVar i)) (tG K cm is h) (tT K cm g) (tE K cm el) own) σ H Q := by
  obtain ⟨C, A, ρ, t, ρ', R, q, k⟩ := hh
  unfold nLcO at q
  split at q
  rotate_left
  · cases q
  rename_i kvs hi
  rw [Option.bind_eq_some_iff] at q
  obtain ⟨ρ1, hz, q⟩ := q
  split at q
  rotate_left
  · cases q
  rename_i hbig
  simp only [Option.bind_eq_some_iff] at q
  obtain ⟨ρw, h2, ⟨all, ρ2⟩, h3, q⟩ := q
  dsimp only at q
  split at q
  rotate_left
  · cases q
  rename_i hsc
  rw [Option.map_eq_some_iff] at q
  obtain ⟨ρ4, hth, h4⟩ := q
  cases h4
  have hdic : dicS i ρ = some (kvs, ρ1) := by
    unfold dicS
    rw [hi]
    simp [hz]
  obtain ⟨A1, d, ks, l1, R1, hv, hd0, hn, hk⟩ := dicS_ok R hdic
  obtain ⟨F0, p1, p2, p3, p4, p5⟩ := R.sl
  obtain ⟨o, x1, v, rfl, ⟨b, xs, rfl, eF, hb, hkb⟩, f⟩ := p5 i _ hi
  rw [hv] at x1; cases x1
  have hA : A d := (p3 i d (by rw [eF]; simp)).1
  have hd : H d = some (.dK ks) := by
    rcases hd0 with z | ⟨o, z⟩
    · exact z
    · rw [z] at hb; cases hb
  have exs : xs = ks := by rw [hd] at hb; cases hb; rfl
  subst exs
  refine ⟨d, .dK xs, hd, trivial, fun od => ?_⟩
  have s : Sw d xs H (upd H d (.frz od (.dK xs))) := ⟨.inl hd, .inr ⟨od, upd_same⟩, fun x q => upd_ne q⟩
  have R2 := R1.sw (o := .frz od (.dK xs)) s hn
  refine tLc_core (C := C.sw d (.frz od (.dK xs))) (A := A1) hsub (fun R' hR => ⟨_, hv, d, od, rfl, .inl ⟨xs, upd_same, hR _ _ A1 _ (.refl _ _) R2 it_keys ⟨upd_same, hn, hk.sw s⟩⟩⟩) hbig h2 h3 fun v H' A' F l2 R3 rt hnd hF => ?_
  have hd' : H' d = some (.frz od (.dK xs)) := l2.l.st _ _ upd_same pl_frz.1 hn
  have hn' : ¬ A' d := (l2.l.rd (.inl upd_same) hn).2
  have s' : Sw d xs H' (upd H' d (.dK xs)) := ⟨.inr ⟨od, hd'⟩, .inl upd_same, fun x q => upd_ne q⟩
  have l3 := l1.trans (Lt.unsw (ks := xs) hd hn (fun z => hn (R1.out d z)) l2)
  have R4 := R3.unsw s' hn' (o1 := .dK xs) fun x e tn np => by
    have := R1.fr d x e tn np
    rw [hd] at this; cases this; rfl
  have rt4 := rt.sw s' fun m => hn' (hF d m).2.1
  obtain ⟨l5, R5⟩ := R.thaw hi hv R4 l3 upd_same hA hkb hn' (fun a m => (hF a m).2.1) hth
  refine ⟨hd', k v _ _ F l5 R5 (rt_sc hsc rt4) hnd fun a m => ⟨sw_none.mp (hF a m).1, .inl (hF a m).2.1, (hF a m).2.2⟩⟩
theorem lcOI_core {K : PySem.W.Frag} {i : Nat} {own is : List Nat} {h : D → Rho → Option Rho} {g : Bm} {el : Em} {σ : L2.St} {H : Hp} {Q : VK} (hsub : ∀ i ∈ is, i ∈ own) (hh : tN K cm (nLcO own itemsD i h g el) σ H Q) :
    tLockE (tLc (iItems (tVar i)) (tG K cm is h) (tT K cm g) (tE K cm el) own) σ H Q := by
  obtain ⟨C, A, ρ, t, ρ', R, q, k⟩ := hh
  unfold nLcO at q
  split at q
  rotate_left
  · cases q
  rename_i kvs hi
  rw [Option.bind_eq_some_iff] at q
  obtain ⟨ρ1, hz, q⟩ := q
  split at q
  rotate_left
  · cases q
  rename_i hbig
  simp only [Option.bind_eq_some_iff] at q
  obtain ⟨ρw, h2, ⟨all, ρ2⟩, h3, q⟩ := q
  dsimp only at q
  split at q
  rotate_left
  · cases q
  rename_i hsc
  rw [Option.map_eq_some_iff] at q
  obtain ⟨ρ4, hth, h4⟩ := q
  cases h4
  have hdic : dicS i ρ = some (kvs, ρ1) := by
    unfold dicS
    rw [hi]
    simp [hz]
  obtain ⟨A1, d, ks, l1, R1, hv, hd0, hn, hk⟩ := dicS_ok R hdic
  obtain ⟨F0, p1, p2, p3, p4, p5⟩ := R.sl
  obtain ⟨o, x1, v, rfl, ⟨b, xs, rfl, eF, hb, hkb⟩, f⟩ := p5 i _ hi
  rw [hv] at x1; cases x1
  have hA : A d := (p3 i d (by rw [eF]; simp)).1
  have hd : H d = some (.dK ks) := by
    rcases hd0 with z | ⟨o, z⟩
    · exact z
    · rw [z] at hb; cases hb
  have exs : xs = ks := by rw [hd] at hb; cases hb; rfl
  subst exs
  refine ⟨d, .dK xs, hd, trivial, fun od => ?_⟩
  have s : Sw d xs H (upd H d (.frz od (.dK xs))) := ⟨.inl hd, .inr ⟨od, upd_same⟩, fun x q => upd_ne q⟩
  have R2 := R1.sw (o := .frz od (.dK xs)) s hn
  refine tLc_core (C := C.sw d (.frz od (.dK xs))) (A := A1) hsub (fun R' hR => ⟨_, hv, d, od, xs, rfl, upd_same, hR _ _ A1 _ (.refl _ _) R2 it_items ⟨upd_same, hn, hk.sw s⟩⟩) hbig h2 h3 fun v H' A' F l2 R3 rt hnd hF => ?_
  have hd' : H' d = some (.frz od (.dK xs)) := l2.l.st _ _ upd_same pl_frz.1 hn
  have hn' : ¬ A' d := (l2.l.rd (.inl upd_same) hn).2
  have s' : Sw d xs H' (upd H' d (.dK xs)) := ⟨.inr ⟨od, hd'⟩, .inl upd_same, fun x q => upd_ne q⟩
  have l3 := l1.trans (Lt.unsw (ks := xs) hd hn (fun z => hn (R1.out d z)) l2)
  have R4 := R3.unsw s' hn' (o1 := .dK xs) fun x e tn np => by
    have := R1.fr d x e tn np
    rw [hd] at this; cases this; rfl
  have rt4 := rt.sw s' fun m => hn' (hF d m).2.1
  obtain ⟨l5, R5⟩ := R.thaw hi hv R4 l3 upd_same hA hkb hn' (fun a m => (hF a m).2.1) hth
  refine ⟨hd', k v _ _ F l5 R5 (rt_sc hsc rt4) hnd fun a m => ⟨sw_none.mp (hF a m).1, .inl (hF a m).2.1, (hF a m).2.2⟩⟩
theorem fn_lcOK {j : Nat} {own : List (Str × Nat)} {scope : Scope} {is : List Nat} {h : D → Rho → Option Rho} {g : Bm} {el : Em} (hc : X.calm = true) (hN : X.N.Nodup) (ho : PE X e (tVar j)) (ok : BlkOk X.N X.env.scope scope own)
    (hg : ∀ (s : Shared) (H : Hp) (C : Addr) (cl : List (Str × Addr)) (fp : List Addr), FG (X.blk s H scope (compEnvC scope cl C X.env) fp) cm tg is h) (ht : ∀ (s : Shared) (H : Hp) (C : Addr) (cl : List (Str × Addr)) (fp : List Addr), FTs (X.blk s H scope (compEnvC scope cl C X.env) fp) cm ifs g)
    (he : ∀ (s : Shared) (H : Hp) (C : Addr) (cl : List (Str × Addr)) (fp : List Addr), FE (X.blk s H scope (compEnvC scope cl C X.env) fp) cm elt el) (hsub : ∀ i ∈ is, i ∈ own.map (·.2)) (hs : ∀ x, foldedSetIterable e X.env x = pure x := by intro _; rfl) :
    FN X cm (.ListComp elt [⟨tg, e, ifs, 0⟩] scope pos) (nLcO (own.map (·.2)) keysD j h g el) :=
  have p : PE X (.ListComp elt [⟨tg, e, ifs, 0⟩] scope pos) (tLc (iKeys (tVar j)) (tG X.K cm is h) (tT X.K cm g) (tE X.K cm el) (own.map (·.2))) := pe_lc hc hN (pi_keys ho) ok hg ht he hs
  (pe_lock p).imp fun σ H Q q => lcOK_core hsub q
theorem fs_setLcOK {i : Nat} {y : Str} {j : Nat} {own : List (Str × Nat)} {scope : Scope} {is : List Nat} {h : D → Rho → Option Rho} {g : Bm} {el : Em} (hc : X.calm = true) (hN : X.N.Nodup) (hy : X.N[i]? = some y) (hyl : X.env.scope.names.lookup y = some .local)
    (hsw : swapsWith (.ListComp elt [⟨tg, e, ifs, 0⟩] scope pos) (some (.Name y py)) spos.line X.env = pure true) (ho : PE X e (tVar j)) (ok : BlkOk X.N X.env.scope scope own)
    (hg : ∀ (s : Shared) (H : Hp) (C : Addr) (cl : List (Str × Addr)) (fp : List Addr), FG (X.blk s H scope (compEnvC scope cl C X.env) fp) cm tg is h) (ht : ∀ (s : Shared) (H : Hp) (C : Addr) (cl : List (Str × Addr)) (fp : List Addr), FTs (X.blk s H scope (compEnvC scope cl C X.env) fp) cm ifs g)
    (he : ∀ (s : Shared) (H : Hp) (C : Addr) (cl : List (Str × Addr)) (fp : List Addr), FE (X.blk s H scope (compEnvC scope cl C X.env) fp) cm elt el) (hsub : ∀ i ∈ is, i ∈ own.map (·.2)) (hs : ∀ x, foldedSetIterable e X.env x = pure x := by intro _; rfl) :
    FS X cm (.Assign [.Name y py] (.ListComp elt [⟨tg, e, ifs, 0⟩] scope pos) spos) (sAsg i (nLcO (own.map (·.2)) keysD j h g el)) :=
  have p : PS X (.Assign [.Name y py] (.ListComp elt [⟨tg, e, ifs, 0⟩] scope pos) spos) (tAsg (tLc (iKeys (tVar j)) (tG X.K cm is h) (tT X.K cm g) (tE X.K cm el) (own.map (·.2))) (gName i)) := ps_setLc hc hN hy hyl hsw (pi_keys ho) ok hg ht he hs
  ⟨fun pins s σ H D I q => (ps_lock p).run pins s σ H D I (lcOK_core hsub (sAsg_of q))⟩
theorem fn_lcOI {j : Nat} {own : List (Str × Nat)} {scope : Scope} {is : List Nat} {h : D → Rho → Option Rho} {g : Bm} {el : Em} (hc : X.calm = true) (hN : X.N.Nodup) (ho : PE X e (tVar j)) (ok : BlkOk X.N X.env.scope scope own)
    (hg : ∀ (s : Shared) (H : Hp) (C : Addr) (cl : List (Str × Addr)) (fp : List Addr), FG (X.blk s H scope (compEnvC scope cl C X.env) fp) cm (.Tuple elts kk tpos) is h) (ht : ∀ (s : Shared) (H : Hp) (C : Addr) (cl : List (Str × Addr)) (fp : List Addr), FTs (X.blk s H scope (compEnvC scope cl C X.env) fp) cm ifs g)
    (he : ∀ (s : Shared) (H : Hp) (C : Addr) (cl : List (Str × Addr)) (fp : List Addr), FE (X.blk s H scope (compEnvC scope cl C X.env) fp) cm elt el) (hsub : ∀ i ∈ is, i ∈ own.map (·.2)) (hbase : attributeBase e "items" X.env (eval e X.env) = eval e X.env := by rfl) (hline : (apos.endLine == cpos.line) = true := by rfl) (hs : ∀ x, foldedSetIterable (.Call (.Attribute e "items" apos) [] [] cpos) X.env x = pure x := by intro _; rfl) :
    FN X cm (.ListComp elt [⟨(.Tuple elts kk tpos), (.Call (.Attribute e "items" apos) [] [] cpos), ifs, 0⟩] scope pos) (nLcO (own.map (·.2)) itemsD j h g el) :=
  have p : PE X (.ListComp elt [⟨(.Tuple elts kk tpos), (.Call (.Attribute e "items" apos) [] [] cpos), ifs, 0⟩] scope pos) (tLc (iItems (tVar j)) (tG X.K cm is h) (tT X.K cm g) (tE X.K cm el) (own.map (·.2))) := pe_lc hc hN (pi_items ho hbase hline) ok hg ht he hs
  (pe_lock p).imp fun σ H Q q => lcOI_core hsub q
theorem fs_setLcOI {i : Nat} {y : Str} {j : Nat} {own : List (Str × Nat)} {scope : Scope} {is : List Nat} {h : D → Rho → Option Rho} {g : Bm} {el : Em} (hc : X.calm = true) (hN : X.N.Nodup) (hy : X.N[i]? = some y) (hyl : X.env.scope.names.lookup y = some .local)
    (hsw : swapsWith (.ListComp elt [⟨(.Tuple elts kk tpos), (.Call (.Attribute e "items" apos) [] [] cpos), ifs, 0⟩] scope pos) (some (.Name y py)) spos.line X.env = pure true) (ho : PE X e (tVar j)) (ok : BlkOk X.N X.env.scope scope own)
    (hg : ∀ (s : Shared) (H : Hp) (C : Addr) (cl : List (Str × Addr)) (fp : List Addr), FG (X.blk s H scope (compEnvC scope cl C X.env) fp) cm (.Tuple elts kk tpos) is h) (ht : ∀ (s : Shared) (H : Hp) (C : Addr) (cl : List (Str × Addr)) (fp : List Addr), FTs (X.blk s H scope (compEnvC scope cl C X.env) fp) cm ifs g)
    (he : ∀ (s : Shared) (H : Hp) (C : Addr) (cl : List (Str × Addr)) (fp : List Addr), FE (X.blk s H scope (compEnvC scope cl C X.env) fp) cm elt el) (hsub : ∀ i ∈ is, i ∈ own.map (·.2)) (hbase : attributeBase e "items" X.env (eval e X.env) = eval e X.env := by rfl) (hline : (apos.endLine == cpos.line) = true := by rfl) (hs : ∀ x, foldedSetIterable (.Call (.Attribute e "items" apos) [] [] cpos) X.env x = pure x := by intro _; rfl) :
    FS X cm (.Assign [.Name y py] (.ListComp elt [⟨(.Tuple elts kk tpos), (.Call (.Attribute e "items" apos) [] [] cpos), ifs, 0⟩] scope pos) spos) (sAsg i (nLcO (own.map (·.2)) itemsD j h g el)) :=
  have p : PS X (.Assign [.Name y py] (.ListComp elt [⟨(.Tuple elts kk tpos), (.Call (.Attribute e "items" apos) [] [] cpos), ifs, 0⟩] scope pos) spos) (tAsg (tLc (iItems (tVar j)) (tG X.K cm is h) (tT X.K cm g) (tE X.K cm el) (own.map (·.2))) (gName i)) := ps_setLc hc hN hy hyl hsw (pi_items ho hbase hline) ok hg ht he hs
  ⟨fun pins s σ H D I q => (ps_lock p).run pins s σ H D I (lcOI_core hsub (sAsg_of q))⟩
end
end G

/-! La53: mirrors of La42..La52 applied to slots. -/
namespace G
open PySem PySem.Spec L2
def dicAt (i : Nat) (ρ : Rho) : Option Sl → Option (List (DK × D) × Rho)
  | some (.v (.p (.dic kvs))) => some (kvs, ρ)
  | some (.v (.di kvs)) => some (kvs, ρ.set i (.v (.p (.dic kvs))))
  | _ => none
@[simp] theorem dicAt_p (i : Nat) (ρ : Rho) (kvs : List (DK × D)) : dicAt i ρ (some (.v (.p (.dic kvs)))) = some (kvs, ρ) := rfl
@[simp] theorem dicAt_di (i : Nat) (ρ : Rho) (kvs : List (DK × D)) : dicAt i ρ (some (.v (.di kvs))) = some (kvs, ρ.set i (.v (.p (.dic kvs)))) := rfl
@[simp] theorem dicS_ap (i : Nat) (ρ : Rho) : dicS i ρ = dicAt i ρ ρ[i]? := by
  unfold dicS dicAt
  cases q : ρ[i]? with
  | none => rfl
  | some s => cases s with
    | no => rfl
    | pin t => rfl
    | v t => cases t with
      | p d => cases d <;> rfl
      | di kvs => simp [frzS, q]
      | _ => rfl
@[simp] theorem iItm_ap (i : Nat) (ρ : Rho) : iItm i ρ = ((dicS i ρ).map fun p => (itemsD p.1, p.2)) := rfl
@[simp] theorem aStar_ap (f : Em) (g : Am) (ρ : Rho) : aStar f g ρ = ((f ρ).bind fun p => (rd p.2 p.1).bind fun d => match d with
  | .tup ds => (g p.2).map fun q => (ds.map RV.val ++ q.1, q.2)
  | .lst ds => (g p.2).map fun q => (ds.map RV.val ++ q.1, q.2)
  | _ => none) := rfl
@[simp] theorem aStarV_ap (i : Nat) (g : Am) (ρ : Rho) : aStarV i g ρ = ((dicS i ρ).bind fun p => (g p.2).map fun q => (p.1.map (fun kv => RV.val kv.2) ++ q.1, q.2)) := rfl
@[simp] theorem eLenSetT_ap (f : Em) (ρ : Rho) : eLenSetT f ρ = ((f ρ).bind fun p => (rd p.2 p.1).bind fun d => match d with
  | .tup ds => (intL ds).bind fun ns => if ns.length < 64 then some (.val (.int (dis ns).length), p.2) else none
  | _ => none) := rfl
@[simp] theorem nRevL_ap (f : Em) (ρ : Rho) : nRevL f ρ = ((f ρ).bind fun p => (rd p.2 p.1).bind fun d => match d with
  | .lst ds => some (.ls ds.reverse, p.2)
  | _ => none) := rfl
@[simp] theorem eRevT_ap (f : Em) (ρ : Rho) : eRevT f ρ = ((f ρ).bind fun p => match p.1 with
  | .val (.str s) => if s.length ≤ big then some (.val (.str s.reverse), p.2) else none
  | _ => none) := rfl
@[simp] theorem nSortK_ap (i : Nat) (js : List Nat) (m : Em) (ρ : Rho) : nSortK i js m ρ = ((dicS i ρ).bind fun p => if p.1.length ≤ big then (capS p.2 js).bind fun cs => (keyN m cs (keysD p.1)).map fun ns => (.ls (bykey ((keysD p.1).zip ns)), p.2) else none) := rfl
def lcoAt (own : List Nat) (wk : List (DK × D) → List D) (i : Nat) (h : D → Rho → Option Rho) (g : Bm) (el : Em) (ρ : Rho) : Option Sl → Option (T × Rho)
  | some (.v (.di kvs)) => if (wk kvs).length ≤ big then (wipeS own (ρ.set i (.v (.p (.dic kvs))))).bind fun ρw => (lcF own h g el (wk kvs) ρw).bind fun r => if scT (.ls r.1) then (thaw i kvs 0 ρ (back (ρ.set i (.v (.p (.dic kvs)))) r.2 own)).map fun ρ2 => (.ls r.1, ρ2) else none else none
  | _ => none
@[simp] theorem lcoAt_di (own : List Nat) (wk : List (DK × D) → List D) (i : Nat) (h : D → Rho → Option Rho) (g : Bm) (el : Em) (ρ : Rho) (kvs : List (DK × D)) : lcoAt own wk i h g el ρ (some (.v (.di kvs))) = (if (wk kvs).length ≤ big then (wipeS own (ρ.set i (.v (.p (.dic kvs))))).bind fun ρw => (lcF own h g el (wk kvs) ρw).bind fun r => if scT (.ls r.1) then (thaw i kvs 0 ρ (back (ρ.set i (.v (.p (.dic kvs)))) r.2 own)).map fun ρ2 => (.ls r.1, ρ2) else none else none) := rfl
@[simp] theorem nLcO_ap (own : List Nat) (wk : List (DK × D) → List D) (i : Nat) (h : D → Rho → Option Rho) (g : Bm) (el : Em) (ρ : Rho) : nLcO own wk i h g el ρ = lcoAt own wk i h g el ρ ρ[i]? := by
  unfold nLcO lcoAt
  cases q : ρ[i]? with
  | none => rfl
  | some s => cases s with
    | no => rfl
    | pin t => rfl
    | v t => cases t with
      | p d => rfl
      | di kvs => simp [frzS, q]
      | _ => rfl
@[simp] theorem thaw_cons (i : Nat) (kvs : List (DK × D)) (j : Nat) (a b : Sl) (as bs : Rho) : thaw i kvs j (a :: as) (b :: bs) = (thA (j == i) kvs a b).bind fun s => (thaw i kvs (j + 1) as bs).map fun r => s :: r := rfl
@[simp] theorem thaw_nil (i : Nat) (kvs : List (DK × D)) (j : Nat) : thaw i kvs j [] [] = some [] := rfl
@[simp] theorem thA_own (kvs : List (DK × D)) (a b : Sl) : thA true kvs a b = some (.v (.di kvs)) := rfl
@[simp] theorem thA_no (kvs : List (DK × D)) (b : Sl) : thA false kvs .no b = some .no := rfl
@[simp] theorem thA_p (kvs : List (DK × D)) (d : D) (b : Sl) : thA false kvs (.v (.p d)) b = some (.v (.p d)) := rfl
@[simp] theorem thA_ls (kvs : List (DK × D)) (d e : List D) : thA false kvs (.v (.ls d)) (.v (.ls e)) = if scT (.ls e) then some (.v (.ls e)) else none := rfl
end G

set_option maxHeartbeats 2000000
/-! La54: x in d, d.pop(x), list(d.values()), d[x], e[y] = v, w of dicts; xs.index(x). -/
namespace G
open PySem PySem.Spec L2 PyProof.Rows
def cInD : D → D → Option D
  | .int k, .dic kvs => some (.bl (lookK kvs (.i k)).isSome)
  | .str k, .dic kvs => some (.bl (lookK kvs (.s k)).isSome)
  | _, _ => none
def cNiD (x y : D) : Option D := (cInD x y).bind fun d => match d with
  | .bl b => some (.bl (!b))
  | _ => none
def rInDict : R2 := fun x y H Q => ∃ a o, y = .ref a ∧ DGet H a x o ∧ Q (.bl o.isSome) H
def rNiDict : R2 := fun x y H Q => ∃ a o, y = .ref a ∧ DGet H a x o ∧ Q (.bl (!o.isSome)) H
theorem op_inDict {X : Cx} (hu : X.A.units + 1 < cLine) : OpR X (compareOp .In) rInDict := by
  intro pins s σ H x y v u Q I rx ry h
  obtain ⟨a, o, e, g, q⟩ := h
  subst e
  cases (show u = Value.ref a from ry)
  exact d_in hu I g rx fun s' I' => ⟨.bl o.isSome, H, I', rfl, q⟩
theorem op_niDict {X : Cx} (hu : X.A.units + 1 < cLine) : OpR X (compareOp .NotIn) rNiDict := by
  intro pins s σ H x y v u Q I rx ry h
  obtain ⟨a, o, e, g, q⟩ := h
  subst e
  cases (show u = Value.ref a from ry)
  exact d_notIn hu I g rx fun s' I' => ⟨.bl (!o.isSome), H, I', rfl, q⟩
section
variable {K : PySem.W.Frag} {cm : Cm}
theorem RpK.isSome {A : AS} {H : Hp} {k : DK} {ks : List (Key × V)} {kvs : List (DK × D)} (r : RpK K cm A H ks kvs) : (valV ks k.k).isSome = (lookK kvs k).isSome := by
  cases q : lookK kvs k with
  | none => rw [r.lookN q]; rfl
  | some d =>
    obtain ⟨v, e1, _⟩ := r.look q
    rw [e1]; rfl
theorem in_dict {A : AS} {H : Hp} {x y : V} {dx dy dz : D} (hx : Ro K cm A H x dx) (hy : Ro K cm A H y dy) (e : cInD dx dy = some dz) : ∃ a o, y = .ref a ∧ DGet H a x o ∧ dz = .bl o.isSome := by
  unfold cInD at e
  split at e
  · rename_i k kvs
    cases e
    cases hx.int
    obtain ⟨a, ks, rfl, hl, rl⟩ := hy.di
    exact ⟨a, valV ks (DK.i k).k, rfl, .inl ⟨ks, _, hl, rfl, rfl⟩, by rw [rl.isSome]⟩
  · rename_i k kvs
    cases e
    cases hx.str
    obtain ⟨a, ks, rfl, hl, rl⟩ := hy.di
    exact ⟨a, valV ks (DK.s k).k, rfl, .inl ⟨ks, _, hl, rfl, rfl⟩, by rw [rl.isSome]⟩
  · cases e
theorem ro_inDict : RO K cm rInDict cInD := by
  intro A H x y dx dy dz Q hd hx hy e k
  obtain ⟨a, o, e1, g, rfl⟩ := in_dict hx hy e
  exact ⟨a, o, e1, g, k _ H (.refl H) (.bl _)⟩
theorem ro_niDict : RO K cm rNiDict cNiD := by
  intro A H x y dx dy dz Q hd hx hy e k
  unfold cNiD at e
  rw [Option.bind_eq_some_iff] at e
  obtain ⟨d, e0, e1⟩ := e
  obtain ⟨a, o, e2, g, rfl⟩ := in_dict hx hy e0
  cases e1
  exact ⟨a, o, e2, g, k _ H (.refl H) (.bl _)⟩
end
/-! ### d.pop(x) -/
def dropD (kvs : List (DK × D)) (k : DK) : List (DK × D) := kvs.filter fun kv => decide (kv.1 ≠ k)
theorem RpK.drop {K : PySem.W.Frag} {cm : Cm} {A : AS} {H : Hp} {k : DK} : ∀ {ks : List (Key × V)} {kvs : List (DK × D)}, RpK K cm A H ks kvs → RpK K cm A H (dropK ks k.k) (dropD kvs k)
  | _, _, .nil => .nil
  | _, _, .cons (k := k') h r => by
    have ih := RpK.drop (k := k) r
    unfold dropK dropD at ih ⊢
    rw [List.filter_cons, List.filter_cons]
    by_cases q : k' = k
    · subst q
      rw [if_neg (by simp), if_neg (by simp)]
      exact ih
    · rw [if_pos (by simpa using fun z => q (DK.k_inj z)), if_pos (by simpa using q)]
      exact .cons h ih
def eDPop (i : Nat) (g : Em) : Em := fun ρ => (isDi ρ i).bind fun _ => (g ρ).bind fun p => (rd p.2 p.1).bind fun k => (isDi p.2 i).bind fun s => (k.k?).bind fun kk => (lookK s.2 kk).map fun d => (.val d, p.2.set i (s.1.w (.di (dropD s.2 kk))))
section
variable {X : Cx} {cm : Cm} {o e : Expr} {pos apos cpos : Pos}
theorem fe_dpop {i : Nat} {g : Em} (ho : PE X o (tVar i)) (he : FE X cm e g) (m : M1 X o "pop" apos e cpos) : FE X cm (.Call (.Attribute o "pop" apos) [e] [] cpos) (eDPop i g) :=
  (pe_dpop1 ho he m).imp fun σ H Q ⟨C, A, ρ, t, ρ', R, q, k⟩ => by
    unfold eDPop at q
    simp only [Option.bind_eq_some_iff, Option.map_eq_some_iff] at q
    obtain ⟨⟨s0, ds0⟩, h0, ⟨rk, ρ1⟩, h1, kd, h2, ⟨s, ds⟩, h3, kk, h4, d, h5, h6⟩ := q
    cases h6
    obtain ⟨e0, t0⟩ := isDi_some h0
    obtain ⟨l0, xs0, v0, hl0, _⟩ := R.dict e0 t0
    refine ⟨_, v0, l0, rfl, .inl ⟨xs0, .inl hl0⟩, C, A, ρ, rk, ρ1, R, h1, fun v1 H1 A1 l1 R1 w1 => ?_⟩
    obtain ⟨e1, t1⟩ := isDi_some h3
    obtain ⟨l, xs, v1', hl, rl, put⟩ := R1.dict e1 t1
    rw [v0] at v1'; cases v1'
    obtain ⟨v, e2, rv⟩ := rl.look h5
    have hk : v1 = kV kk.k := by
      cases kd <;> cases h4
      · exact (rd_ok R1 w1 h2).int
      · exact (rd_ok R1 w1 h2).str
    obtain ⟨R2, l2⟩ := put _ _ rl.drop
    exact ⟨xs, kk.k, v, hl, hk, e2, k v _ A1 (l1.trans l2) R2 (rv.later l2.l)⟩
/-! ### list(d.values()) -/
theorem RpK.vals {K : PySem.W.Frag} {A : AS} {H : Hp} : ∀ {ks : List (Key × V)} {kvs : List (DK × D)}, RpK K cm A H ks kvs → RpL K cm A H (ks.map (·.2)) (kvs.map (·.2))
  | _, _, .nil => .nil
  | _, _, .cons h r => .cons h r.vals
def tListV (te : TE) : TE := fun σ H Q => te σ H fun x H1 => ∃ d ks, x = V.ref d ∧ Rd H1 d (.dK ks) ∧ ∀ p, H1 p = none → Q (.ref p) (upd H1 p (.lst (ks.map (·.2))))
theorem pe_listV {te : TE} {p : Pos} (hcalm : X.calm = true) (hg : Gl X "list") (hm : X.mg "list" = none) (he : PE X e te) (hbase : attributeBase e "values" X.env (eval e X.env) = eval e X.env := by rfl) (hline : (apos.endLine == cpos.line) = true := by rfl)
    (na : starEach [.Call (.Attribute e "values" apos) [] [] cpos] X.env = (false, eval (.Call (.Attribute e "values" apos) [] [] cpos) X.env) :: starEach [] X.env := by rfl) :
    PE X (.Call (.Name "list" p) [.Call (.Attribute e "values" apos) [] [] cpos] [] pos) (tListV te) := by
  refine ⟨fun pins s σ H Q I h => ?_⟩
  refine Call_ (ld_blt I hg hm (by decide +kernel : bootBuiltins "list" = some (.type "list")) ?_)
  refine PyProof.Rows.callWith_type1 (PyProof.Rows.args_cons ?_ na) na rfl
  refine wpAny_Call_method (T := "dict") (id := "dict.values") hbase rfl hline F.plainAttrs_dict F.slot_dict_values F.type_dict_values (thn (he.run pins s σ H _ I h) fun u s1 ⟨x, H1, I1, rx, d, kvs, ex, hd, q⟩ => ?_)
  subst ex
  obtain rfl : u = Value.ref d := rx
  obtain ⟨z, lo, vs, rel, dd⟩ := dk_rd I1.hok hd
  obtain ⟨ep, hm⟩ := dd.dictAt
  have hl : kvs.length = vs.length := rel.length
  refine ⟨hm.dictOf.typeIs, hm.dictOf.mapOf.noDict, ?_⟩
  have I2 : Inv X pins σ H1 { s1 with heap := s1.heap.push { cls := .type "dict_values", data := .fields #[.ref d] } } := I1.kept (t' := s1.toks) fun b ob q => Heap.get?_push_of_some _ q
  refine method_meetsIn F.slot_dict_values F.entry_dict_values rfl (PySem.evalArgs_none ⟨rfl, hm.dictOf.typeIs, F.args_dict_values_1 _, _, meets_dict_values (mixKind X.prog X.w) d lo, ⟨vs, hm.dictOf⟩, ?_⟩)
  have hview : (s1.heap.push { cls := .type "dict_values", data := .fields #[.ref d] }).IsValuesView s1.heap.objs.size d := ⟨_, Heap.get?_push_size _ rfl, rfl, rfl⟩
  refine PyProof.Rows.args_nil ?_
  refine PySem.W.kdl_call (PySem.W.kdl_values (knd := mixKind X.prog X.w) (kvs := vs) (ep := ep)) (I1.ok.hd hcalm) ⟨hview, hm.push _⟩ (by rw [← hl]; exact z) fun h' tk acc c' hk hD hacc => ?_
  have hv : Vals (kvs.map (·.2)) acc.toList := kvals_at rel _ (by rw [Array.length_toList]; exact hacc.1) fun j v e => hacc.2 j v (by rw [← Array.getElem?_toList]; exact e)
  exact ⟨V.ref (s1.heap.push { cls := .type "dict_values", data := .fields #[.ref d] }).objs.size, upd H1 (s1.heap.push { cls := .type "dict_values", data := .fields #[.ref d] }).objs.size (.lst (kvs.map (·.2))), I2.laid (t' := tk) hk (Nat.le_refl _) (show ObjOk X.prog X.w _ _ _ (.lst (kvs.map (·.2))) from ⟨by rw [List.length_map]; exact z, acc.toList, c', hv, by rw [Array.toArray_toList]; exact hD⟩), rfl, q _ (I2.hok.fresh (Nat.le_refl _))⟩
def nListV (f : Em) : Rho → Option (T × Rho) := fun ρ => (f ρ).bind fun p => (rd p.2 p.1).bind fun d => match d with
  | .dic kvs => some (.ls (kvs.map (·.2)), p.2)
  | _ => none
theorem fn_listV {f : Em} {p : Pos} (hcalm : X.calm = true) (hg : Gl X "list") (hm : X.mg "list" = none) (he : FE X cm e f) (hbase : attributeBase e "values" X.env (eval e X.env) = eval e X.env := by rfl) (hline : (apos.endLine == cpos.line) = true := by rfl)
    (na : starEach [.Call (.Attribute e "values" apos) [] [] cpos] X.env = (false, eval (.Call (.Attribute e "values" apos) [] [] cpos) X.env) :: starEach [] X.env := by rfl) :
    FN X cm (.Call (.Name "list" p) [.Call (.Attribute e "values" apos) [] [] cpos] [] pos) (nListV f) :=
  (pe_listV hcalm hg hm he hbase hline na).imp fun σ H Q ⟨C, A, ρ, t, ρ', R, q, k⟩ => by
    unfold nListV at q
    simp only [Option.bind_eq_some_iff] at q
    obtain ⟨⟨r, ρ1⟩, h1, d, h2, h3⟩ := q
    dsimp only at h3
    split at h3
    · rename_i kvs
      cases h3
      refine ⟨C, A, ρ, r, _, R, h1, fun v H1 A1 l1 R1 w1 => ?_⟩
      obtain ⟨a, ks, rfl, hl, rl⟩ := (rd_ok R1 w1 h2).di
      refine ⟨a, ks, rfl, hl, fun p hp => ?_⟩
      obtain ⟨l2, R2, hF⟩ := own1 (o := .lst (ks.map (·.2))) R1 hp
      exact k _ _ _ [p] (l1.trans l2) R2 ⟨p, _, rfl, rfl, upd_same, rl.vals.later l2.l⟩ (by simp) hF
    · cases h3
/-! ### targets d[x] of one's own dict -/
def hSubD (i : Nat) (g : Em) : D → Rho → Option Rho := fun d ρ => (isDi ρ i).bind fun _ => (g ρ).bind fun p => (rd p.2 p.1).bind fun k => (isDi p.2 i).bind fun s => (k.k?).bind fun kk => if s.2.length < big then some (p.2.set i (s.1.w (.di (putD s.2 kk d)))) else none
theorem fg_subD {i : Nat} {g : Em} {b : Expr} (hu : X.A.units + 1 < cLine) (ho : PE X o (tVar i)) (hi : FE X cm b g)
    (ha : ∀ v, assign (.Subscript o b pos) X.env v = (do
      let ov ← holding [v] (eval o X.env)
      let iv ← holding [v, ov] (eval b X.env)
      standAt pos
      holding [v, ov, iv] (setItem ov iv v)
      release [v, ov, iv] []) := by intro _; rfl) : FG X cm (.Subscript o b pos) [] (hSubD i g) := (pg_sub ho hi (set_dict hu) ha).imp fun v σ H Q ⟨C, A, ρ, d, ρ', R, r, q, k⟩ => by
  simp only [hSubD, Option.bind_eq_some_iff] at q
  obtain ⟨⟨s0, ds0⟩, h0, ⟨rv, ρ1⟩, h1, kd, h2, ⟨s1, ds1⟩, h3, kk, h4, h5⟩ := q
  obtain ⟨e0, t0⟩ := isDi_some h0
  obtain ⟨l0, xs0, v0, hl0, _⟩ := R.dict e0 t0
  split at h5
  · rename_i hz
    cases h5
    refine ⟨_, v0, C, A, ρ, rv, ρ1, R, h1, fun w H1 A1 l1 R1 w1 => ?_⟩
    obtain ⟨e1, t1⟩ := isDi_some h3
    obtain ⟨l, xs, v1, hl, rl, put⟩ := R1.dict e1 t1
    rw [v0] at v1; cases v1
    have hk : w = kV kk.k := by
      cases kd <;> cases h4
      · exact (rd_ok R1 w1 h2).int
      · exact (rd_ok R1 w1 h2).str
    obtain ⟨R2, l2⟩ := put (putK xs kk.k v) (putD ds1 kk d) (rl.put (r.later l1.l))
    have hz' : ds1.length < big := hz
    exact ⟨l0, _, rfl, .inl ⟨xs, kk.k, hl, hk, big_lt (by rw [rl.length]; omega), rfl⟩, k σ _ A1 (l1.trans l2) R2 rfl fun _ _ => rfl⟩
  · cases h5
end
end G

set_option maxHeartbeats 2000000
/-! La55: sorted(list of pairs, of numbers, of texts); xs.index(x). -/
namespace G
open PySem PySem.Spec L2 PyProof.Rows
def rowsK : List D → Bool
  | [] => true
  | d :: ds => rowK d ds
theorem rowsK_all {ds : List D} (h : rowsK ds = true) : (∀ x ∈ ds, ∀ y ∈ ds, D.alk x y = true) ∧ D.flats ds = true := by
  cases ds with
  | nil => exact ⟨fun x m => (nomatch m), rfl⟩
  | cons d ds => exact rowK_all h
def leD (a b : D) : Bool := !D.lt b a
section
variable {X : Cx} {K : PySem.W.Frag} {cm : Cm}
def rSortDt (K : PySem.W.Frag) : List V → Hp → VK → Prop := fun vs H Q => ∃ (a : Addr) (xs : List V) (ds : List D), vs = [V.ref a] ∧ SqL K H a xs ∧ DpAll K H xs (D.pys ds) ∧ (∀ x ∈ ds, ∀ y ∈ ds, D.alk x y = true) ∧
  ∀ p, H p = none → Q (.ref p) (upd H p (.lst (((xs.zip ds).mergeSort (PySem.W.dataLe false fun q : V × D => q.2.py)).map (·.1))))
theorem srt_each {pins : List (Addr × Obj)} {σ : L2.St} {H : Hp} {s : Shared} (I : Inv X pins σ H s) : ∀ {xs : List V} {ds : List D} {its : List Value}, Vals xs its → DpAll X.K H xs (D.pys ds) →
    PySem.W.EachIs (fun (v : Value) (p : V × D) => RelV p.1 v) its (xs.zip ds) ∧ PySem.W.EachIs (fun (v : Value) (p : V × D) => ∃ as, Reads s.heap v p.2.py as) its (xs.zip ds) ∧ (xs.zip ds).map (·.2) = ds ∧ (xs.zip ds).length = its.length
  | [], ds, _, .nil, hd => by
    cases ds with
    | nil => exact ⟨.nil, .nil, rfl, rfl⟩
    | cons d ds => cases hd
  | x :: xs, ds, _, .cons r t, hd => by
    cases ds with
    | nil => cases hd
    | cons d ds =>
      cases hd with
      | cons h hs =>
        obtain ⟨h1, h2, h3, h4⟩ := srt_each I t hs
        exact ⟨.cons r h1, .cons (Dp.reads I _ _ _ h r) h2, by simp [h3], by simp [h4]⟩
theorem each_valsD : ∀ {out : List Value} {ps : List (V × D)}, PySem.W.EachIs (fun (v : Value) (p : V × D) => RelV p.1 v) out ps → Vals (ps.map (·.1)) out
  | _, _, .nil => .nil
  | _, _, .cons h t => .cons h (each_valsD t)
theorem alk_sortable {ds : List D} (h : ∀ x ∈ ds, ∀ y ∈ ds, D.alk x y = true) : PySem.W.Sortable (ds.map D.py) := by
  cases ds with
  | nil => exact .inl fun d m => nomatch m
  | cons d ds =>
    have tp : (∃ a b, d = .tup [a, b]) ∨ ∀ x ∈ d :: ds, ∀ xs, x ≠ .tup xs := by
      by_cases q : ∃ a b, d = .tup [a, b]
      · exact .inl q
      · refine .inr fun x m xs e => ?_
        have h1 := h d (by simp) x m
        subst e
        cases d <;> try (simp [D.alk, D.a1] at h1)
        rename_i zs
        match zs, h1 with
        | [a, b], _ => exact q ⟨a, b, rfl⟩
    rcases tp with ⟨a, b, rfl⟩ | tp
    · refine .inl fun y my => ?_
      obtain ⟨x, mx, rfl⟩ := List.mem_map.mp my
      have h1 := h (.tup [a, b]) (by simp) x mx
      cases x <;> try (simp [D.alk, D.a1] at h1)
      rename_i zs
      match zs, h1 with
      | [c, e], _ => exact ⟨c.py, [e.py], rfl⟩
    · refine .inr fun y my => ?_
      obtain ⟨x, mx, rfl⟩ := List.mem_map.mp my
      have h1 := h x mx x mx
      refine ⟨(alk_py h1).2.2.1, fun xs e => ?_⟩
      cases x <;> (try (simp [D.alk, D.a1] at h1)) <;> (try cases e)
      exact tp _ mx _ rfl
theorem cr_sortedDt (hu : X.A.units + 3 < cLine) : CallR X (.builtin "sorted") (rSortDt X.K) := by
  intro pins s σ H vs us Q I r h
  obtain ⟨a, xs, ds, rfl, hs, hd, hal, q⟩ := h
  rw [Vals.ref1 r]
  obtain ⟨its, rv, hl, hz⟩ := I.list hs
  obtain ⟨e1, e2, e3, e4⟩ := srt_each I rv hd
  have e5 : (xs.zip ds).map (fun p : V × D => p.2.py) = ds.map D.py := by
    have := congrArg (List.map D.py) e3
    rwa [List.map_map] at this
  refine PySem.W.sorted_data (bs := xs.zip ds) (enc := fun p : V × D => p.2.py) (R := fun (v : Value) (p : V × D) => RelV p.1 v) hl.isList e1 e2 ?_ ?_ (by rw [e4, ← rv.length]; exact hz) (fun b hb => ?_) fun out ho eo => ?_
  · rw [e5]
    intro x hx y hy
    obtain ⟨x', mx, rfl⟩ := List.mem_map.mp hx
    obtain ⟨y', my, rfl⟩ := List.mem_map.mp hy
    exact (alk_py (hal x' mx y' my)).1
  · rw [e5]
    exact alk_sortable hal
  · have hm : b.2 ∈ ds := by rw [← e3]; exact List.mem_map.mpr ⟨b, hb, rfl⟩
    have := (alk_py (hal _ hm _ hm)).2.2.2.1
    omega
  · obtain ⟨c, hc⟩ := sortedAll_at s.heap its out.toArray
    refine ⟨.ref (s.heap.objs.size + 1), upd H (s.heap.objs.size + 1) (.lst (((xs.zip ds).mergeSort (PySem.W.dataLe false fun q : V × D => q.2.py)).map (·.1))), I.laid (t' := s.toks) (fun b o q => sortedAll_old q) (Nat.le_succ _) ⟨?_, out, c, each_valsD eo, hc⟩, rfl, q _ (I.hok.fresh (Nat.le_succ _))⟩
    rw [List.length_map, List.length_mergeSort, e4, ← rv.length]
    exact hz
def cSortDt : List D → Option (List D)
  | [.lst ds] => if rowsK ds then some (ds.mergeSort leD) else none
  | _ => none
theorem rpl_pairs {A : AS} {H : Hp} : ∀ {ps : List (V × D)}, (∀ p ∈ ps, Rp K cm A H p.1 p.2) → RpL K cm A H (ps.map (·.1)) (ps.map (·.2))
  | [], _ => .nil
  | p :: ps, h => .cons (h p (by simp)) (rpl_pairs fun q m => h q (by simp [m]))
theorem rpl_zip {A : AS} {H : Hp} : ∀ {xs : List V} {ds : List D}, RpL K cm A H xs ds → (∀ p ∈ xs.zip ds, Rp K cm A H p.1 p.2) ∧ (xs.zip ds).map (·.2) = ds
  | _, _, .nil => ⟨fun p m => (nomatch m), rfl⟩
  | _, _, .cons h r => by
    obtain ⟨h1, h2⟩ := rpl_zip r
    refine ⟨fun p m => ?_, by simp [h2]⟩
    rcases List.mem_cons.mp m with e | m
    · rw [e]; exact h
    · exact h1 p m
theorem rc_sortDt : RCN K cm (rSortDt K) cSortDt := by
  intro A H vs es ds' Q hd hl hr e k
  unfold cSortDt at e
  split at e
  · rename_i ds
    split at e
    · rename_i hk
      cases e
      obtain ⟨v, rfl, r⟩ := hr.one
      obtain ⟨a, xs, rfl, hs, rl⟩ := r.ls
      obtain ⟨hall, hfl⟩ := rowsK_all hk
      obtain ⟨hz, hm⟩ := rpl_zip rl
      refine ⟨a, xs, ds, rfl, hs, rl.dp hfl, hall, fun p hp => k p _ hp ?_⟩
      have h1 := rpl_pairs (K := K) (cm := cm) (A := A) (H := H) (ps := (xs.zip ds).mergeSort (PySem.W.dataLe false fun q : V × D => q.2.py)) fun p m => hz p (List.mem_mergeSort.mp m)
      have h2 : ((xs.zip ds).mergeSort (PySem.W.dataLe false fun q : V × D => q.2.py)).map (·.2) = ds.mergeSort leD := by
        have := List.map_mergeSort (r := PySem.W.dataLe false fun q : V × D => q.2.py) (s := leD) (f := fun q : V × D => q.2) (l := xs.zip ds) (fun p mp q mq => by
          have m1 : p.2 ∈ ds := by rw [← hm]; exact List.mem_map.mpr ⟨p, mp, rfl⟩
          have m2 : q.2 ∈ ds := by rw [← hm]; exact List.mem_map.mpr ⟨q, mq, rfl⟩
          show (!PySem.W.dataLt q.2.py p.2.py) = !D.lt q.2 p.2
          rw [(alk_py (hall _ m2 _ m1)).2.1])
        rw [this, hm]
      rw [h2] at h1
      exact h1
    · cases e
  · cases e
/-! ### xs.index(x) -/
def idxE (x : D) : List D → Option Nat
  | [] => none
  | d :: ds => if D.eq d x then some 0 else (idxE x ds).map (· + 1)
def mIdx : List D → List D → Option (D × List D)
  | ds, [d] => if d.fl && flL ds then (idxE d ds).map fun j : Nat => (.int (j : Nat), ds) else none
  | _, _ => none
theorem idx_v {A : AS} {H : Hp} {v : V} {d : D} (h : Rp K cm A H v d) (f : d.fl = true) : ∀ {xs : List V} {ds : List D} {j : Nat}, RpL K cm A H xs ds → flL ds = true → idxE d ds = some j → ∃ z, xs[j]? = some z ∧ eqV z v = true ∧ ∀ (m : Nat) (z' : V), m < j → xs[m]? = some z' → eqV z' v = false
  | _, _, _, .nil, _, e => by cases e
  | _, _, j, .cons (v := y) (d := e1) g t, f2, e => by
    simp only [flL, Bool.and_eq_true] at f2
    have hq := eq_v g h f2.1 f
    unfold idxE at e
    split at e
    · rename_i q
      cases e
      exact ⟨y, rfl, by rw [hq]; exact q, fun m z' hm => absurd hm (Nat.not_lt_zero _)⟩
    · rename_i q
      rw [Option.map_eq_some_iff] at e
      obtain ⟨i, e2, rfl⟩ := e
      obtain ⟨z, h1, h2, h3⟩ := idx_v h f t f2.2 e2
      refine ⟨z, by simpa using h1, h2, fun m z' hm hz => ?_⟩
      cases m with
      | zero =>
        cases hz
        rw [hq]
        simpa using q
      | succ m => exact h3 m z' (by omega) (by simpa using hz)
theorem upd_id {H : Hp} {a : Addr} {o : HO} (h : H a = some o) : upd H a o = H := by
  funext b
  by_cases q : b = a
  · rw [q, upd_same, h]
  · rw [upd_ne q]
theorem rm_idx : RM K cm (rIndex K) mIdx := by
  intro A H l xs vs ds es ds' z Q hl rx re e k
  unfold mIdx at e
  split at e
  · split at e
    · rename_i hf
      rw [Bool.and_eq_true] at hf
      rw [Option.map_eq_some_iff] at e
      obtain ⟨j, e1, e2⟩ := e
      cases e2
      cases re with
      | cons r1 re =>
        cases re
        obtain ⟨z, h1, h2, h3⟩ := idx_v r1 hf.1 rx hf.2 e1
        refine ⟨l, xs, _, j, z, rfl, rfl, .inl (.inl hl), fl_v r1 hf.1, fl_vL rx hf.2, h1, h2, h3, ?_⟩
        have := k _ xs (.int j) rx
        rwa [upd_id hl] at this
    · cases e
  · cases e
end
/-! ### applied -/
@[simp] theorem nListV_ap (f : Em) (ρ : Rho) : nListV f ρ = ((f ρ).bind fun p => (rd p.2 p.1).bind fun d => match d with
  | .dic kvs => some (.ls (kvs.map (·.2)), p.2)
  | _ => none) := rfl
@[simp] theorem eDPop_ap (i : Nat) (g : Em) (ρ : Rho) : eDPop i g ρ = ((isDi ρ i).bind fun _ => (g ρ).bind fun p => (rd p.2 p.1).bind fun k => (isDi p.2 i).bind fun s => (k.k?).bind fun kk => (lookK s.2 kk).map fun d => (.val d, p.2.set i (s.1.w (.di (dropD s.2 kk))))) := rfl
@[simp] theorem hSubD_ap (i : Nat) (g : Em) (d : D) (ρ : Rho) : hSubD i g d ρ = ((isDi ρ i).bind fun _ => (g ρ).bind fun p => (rd p.2 p.1).bind fun k => (isDi p.2 i).bind fun s => (k.k?).bind fun kk => if s.2.length < big then some (p.2.set i (s.1.w (.di (putD s.2 kk d)))) else none) := rfl
@[simp] theorem cInD_str (s : List Nat) (kvs : List (DK × D)) : cInD (.str s) (.dic kvs) = some (.bl (lookK kvs (.s s)).isSome) := rfl
@[simp] theorem cInD_int (s : Int) (kvs : List (DK × D)) : cInD (.int s) (.dic kvs) = some (.bl (lookK kvs (.i s)).isSome) := rfl
end G

set_option maxHeartbeats 4000000
/-! La56: len(set(list of ints)). -/
namespace G
open PySem PySem.Spec PyProof.Rows L2
section
variable {P : Program} {w : World} {A : Around} {E : Value → Shared → Prop} {s : Shared}
abbrev emS (w : World) : Obj := { cls := .type "set", dict := none, data := .set #[] 0 (.fresh 0 0 (!w.params.followText "set-order")) }
theorem call_set_lstI {l : Addr} {xs : List Value} (ns : List Int) {Q : Value → Shared → Prop} (hh : A.handled = none) (hl : s.heap.IsList l xs.toArray) (hit : IntsAre xs ns) (hb : ns.length + 1 < scanBound)
    (h : ∀ (h' : Heap) (tk c : Nat), SetR w h' s.heap.objs.size (fun j => decide (j ∈ ns)) c → c ≤ ns.length → (∀ b o, s.heap.get? b = some o → h'.get? b = some o) → Q (.ref s.heap.objs.size) { s with heap := h', toks := tk }) :
    wpAny (model P w) A (call (.type "set") [.ref l]) Q E s := by
  have hsz : xs.toArray.size = ns.length := by rw [List.size_toArray]; exact IntsAre.length hit
  obtain ⟨c, tl, hmro⟩ := F.called_set.mro
  have hmade := F.called_set.made
  have hsub := F.called_set.sub
  refine wpAny_call (codeAny_of_tree ?_)
  show wpAny _ _ (callAny (.type "set") _) _ _ _
  refine wpAny_pure ⟨Code.quiet_builtin _ (by decide +kernel), codeAny_builtin F.entry_type_call ?_⟩
  rw [Around.under_plain (weight_type_call_type "set" [.ref l] []) rfl]
  have h1 := F.called_set.notType
  have h2 := F.called_set.canCreate
  have hct := F.typeCall_set_1 (.ref l)
  repeat (any_goals (first | assumption | wp_step))
  refine codeAny_mono (code_set_led1 (.ref l) (E := E) (Q₁ := fun o1 s1 => o1 = .ref s.heap.objs.size ∧ s1 = { s with heap := s.heap.push (emS w) }) ⟨rfl, rfl⟩) fun r s1 hr => ?_
  cases r with
  | error e => exact hr
  | ok fl =>
    cases fl with
    | ret o1 =>
      obtain ⟨rfl, rfl⟩ := hr
      have hS : (s.heap.push (emS w)).get? s.heap.objs.size = some (emS w) := Heap.get?_push_size _ rfl
      have hT : Shared.TypeIs { s with heap := s.heap.push (emS w) } (.ref s.heap.objs.size) "set" := ⟨_, hS, rfl⟩
      have hli := F.called_set.init.lookup
      have hbi := F.called_set.init.bind (.ref s.heap.objs.size)
      repeat (any_goals (first | assumption | wp_step))
      refine codeAny_mono (codeAny_call_builtin (R := wants (fun r s2 => r = .none ∧ ∃ h' tk c, s2 = { s with heap := h', toks := tk } ∧ SetR w h' s.heap.objs.size (fun j => decide (j ∈ ns)) c ∧ c ≤ ns.length ∧
          (∀ b o, s.heap.get? b = some o → h'.get? b = some o)) E) F.called_set.init.plain F.entry_set_init (check_set_init_1 hT ?_)) fun r2 s2 hr2 => ?_
      · have hll := Heap.IsList.push (o := emS w) hl
        obtain ⟨ol, hol, hcl, nl, hdl⟩ := hl
        have hlt : l < s.heap.objs.size := Heap.lt_size hol
        obtain ⟨lc, ld, ldata, lsl⟩ := ol
        dsimp only at hcl hdl
        subst hcl
        subst hdl
        have hol2 : (s.heap.push (emS w)).get? l = some { cls := .type "list", dict := ld, data := .seq xs.toArray nl, slots := lsl } := Heap.get?_push_of_some _ hol
        have hss := PySem.F.sub_list_set
        have hsf := PySem.F.sub_list_frozenset
        have hne : (Value.type "list" == Value.type "dict") = false := by decide
        unfold Builtin.«set.__init__» noKeywords Builtin.Frozenset.updateFrom
        generalize hPI : pyIter = PI
        wp_walk
        subst hPI
        refine wpAny_pyIter_list hll (wpAny_bind (wpAny_runValue ?_))
        have hz1 : (s.heap.push (emS w)).objs.size = s.heap.objs.size + 1 := Heap.size_push ..
        have hval : ∀ (i : Nat) (v : Value), xs.toArray[i]? = some v → ∃ k t, ns[i]? = some k ∧ v = .int k t := fun i v hv => by
          have hi : i < ns.length := by rw [← hsz]; exact (Array.getElem?_eq_some_iff.mp hv).1
          obtain ⟨t, e⟩ := PyProof.Rows.IntsAre.int_at hit i v (by simpa using hv)
          refine ⟨ns[i], t, List.getElem?_eq_getElem hi, ?_⟩
          rw [e]
          simp [List.getD, hi]
        refine set_update_ints ((Walks.list (by simp [hh]) _ l (by rw [hz1]; exact Nat.ne_of_lt (Nat.lt_succ_of_lt hlt)) xs.toArray).toS) s.heap.objs.size (by rw [hz1]; simp; exact Nat.ne_of_gt hlt) ns hsz hb hval (xs.toArray.size - 0) 0 _ (by omega) (Nat.zero_le _)
          ⟨⟨_, Heap.get?_push_size _ rfl, rfl, rfl⟩, hll.push _⟩ ⟨0, Nat.le_refl 0, setR_new_at (Heap.get?_push_of_some _ hS)⟩ fun s3 c3 hm hc3 hS3 => ?_
        obtain ⟨h3, g3, d3, tk3, os3⟩ := s3
        have eg : g3 = s.gens := hm.gens
        have ed : d3 = s.drawn := hm.drawn
        have eo : os3 = s.os := hm.os
        subst eg
        subst ed
        subst eo
        refine wpAny_pure ?_
        show wpAny _ _ (ret Value.none) _ _ _
        refine wpAny_pure ⟨rfl, h3, tk3, c3, rfl, hS3, by rw [← hsz]; exact hc3, fun b o e => ?_⟩
        have hb0 : b < s.heap.objs.size := Heap.lt_size e
        exact hm.heap b o (by rw [hz1]; simp; exact ⟨Nat.ne_of_lt hb0, Nat.ne_of_lt (Nat.lt_succ_of_lt hb0)⟩) (Heap.get?_push_of_some _ (Heap.get?_push_of_some _ e))
      · cases r2 with
        | error e => exact hr2
        | ok fl2 =>
          cases fl2 with
          | ret r =>
            obtain ⟨rfl, h', tk, c', rfl, hS', hc', hk'⟩ := hr2
            repeat (any_goals (first | assumption | wp_step))
            exact h _ _ _ hS' hc' hk'
          | _ => exact hr2.elim
    | _ => exact hr.elim
end
section
variable {X : Cx} {cm : Cm}
def tLenSetL (K : PySem.W.Frag) (ta : TE) : TE := fun σ H Q => ta σ H fun x H1 => ∃ (l : Addr) (ns : List Int), x = V.ref l ∧ SqL K H1 l (ns.map V.int) ∧ ns.length < 64 ∧ Q (.int (dis ns).length) H1
theorem pe_lenSetL {a : Expr} {ta : TE} {p p2 q pos : Pos} (hc : X.calm = true) (hg : Gl X "len") (hm : X.mg "len" = none) (hg2 : Gl X "set") (hm2 : X.mg "set" = none) (ha : PE X a ta)
    (na : starEach [a] X.env = (false, eval a X.env) :: starEach [] X.env := by rfl) : PE X (.Call (.Name "len" p) [.Call (.Name "set" p2) [a] [] q] [] pos) (tLenSetL X.K ta) := by
  refine ⟨fun pins s σ H Q I h => ?_⟩
  refine Call_ (ld_blt I hg hm PySem.boot_len ?_)
  refine PyProof.Rows.callWith_builtin1 (PyProof.Rows.args_cons ?_ rfl) rfl rfl
  refine Call_ (ld_blt I hg2 hm2 PyProof.Rows.boot_set ?_)
  refine PyProof.Rows.callWith_type1 (PyProof.Rows.args_cons (thn (ha.run pins s σ H _ I h) fun v s1 ⟨x, H1, I1, r1, q1⟩ => PyProof.Rows.args_nil ?_) na) na rfl
  obtain ⟨l, ns, rfl, hq, h1, q1⟩ := q1
  cases r1
  obtain ⟨its, r, pl, hz⟩ := I1.list hq
  refine call_set_lstI ns (I1.ok.hd hc) pl.isList r.ints (by unfold scanBound; omega) fun h' tk c hS hcl hk => ?_
  refine PyProof.Rows.args_nil ?_
  obtain ⟨o, es, ep, t, ho, hex, hd, g, nd, hmem, hb, hf, hn, _⟩ := hS
  have I2 : Inv X pins σ H1 { s1 with heap := h', toks := tk } := I1.kept hk
  have e1 : es.size = (dis ns).length := by
    have := dis_len (l := ns) nd fun k => (hmem k).symm.trans (by simp)
    rw [List.length_map, Array.length_toList] at this
    exact this
  refine call_len_set ho hex hd hf (by rw [hn]; omega) ⟨.int (dis ns).length, H1, I2.tok _, ⟨_, by rw [e1]⟩, q1⟩
def eLenSetL (f : Em) : Em := fun ρ => (f ρ).bind fun p => (rd p.2 p.1).bind fun d => match d with
  | .lst ds => (intL ds).bind fun ns => if ns.length < 64 then some (.val (.int (dis ns).length), p.2) else none
  | _ => none
theorem fe_lenSetL {f : Em} {a : Expr} {p p2 q pos : Pos} (hc : X.calm = true) (hg : Gl X "len") (hm : X.mg "len" = none) (hg2 : Gl X "set") (hm2 : X.mg "set" = none) (ha : FE X cm a f)
    (na : starEach [a] X.env = (false, eval a X.env) :: starEach [] X.env := by rfl) : FE X cm (.Call (.Name "len" p) [.Call (.Name "set" p2) [a] [] q] [] pos) (eLenSetL f) :=
  (pe_lenSetL hc hg hm hg2 hm2 ha na).imp fun σ H Q ⟨C, A, ρ, t, ρ', R, q, kk⟩ => by
  unfold eLenSetL at q
  simp only [Option.bind_eq_some_iff] at q
  obtain ⟨⟨r, ρ1⟩, h1, d, h2, h3⟩ := q
  dsimp only at h3
  split at h3
  · rename_i ds
    rw [Option.bind_eq_some_iff] at h3
    obtain ⟨ns, e1, h3⟩ := h3
    split at h3
    · rename_i hz
      cases h3
      refine ⟨C, A, ρ, r, _, R, h1, fun v H1 A1 l1 R1 w1 => ?_⟩
      obtain ⟨a, xs, rfl, hs, rl⟩ := (rd_ok R1 w1 h2).ls
      have e2 := rl.intL e1
      subst e2
      exact ⟨a, ns, rfl, hs, hz, kk _ _ _ l1 R1 (.int _)⟩
    · cases h3
  · cases h3
end
@[simp] theorem eLenSetL_ap (f : Em) (ρ : Rho) : eLenSetL f ρ = ((f ρ).bind fun p => (rd p.2 p.1).bind fun d => match d with
  | .lst ds => (intL ds).bind fun ns => if ns.length < 64 then some (.val (.int (dis ns).length), p.2) else none
  | _ => none) := rfl
end G

set_option maxHeartbeats 2000000
/-! La57: len(dict). -/
namespace G
open PySem PySem.Spec PyProof.Rows L2
theorem cr_lenDk {X : Cx} : CallR X (.builtin "len") (fun xs H Q => ∃ a kvs, xs = [V.ref a] ∧ Rd H a (.dK kvs) ∧ Q (.int kvs.length) H) := by
  intro pins s σ H xs us Q I r q
  obtain ⟨a, kvs, rfl, hd, q⟩ := q
  rw [Vals.ref1 r]
  exact d_len I hd fun t s' I' => ⟨.int kvs.length, H, I', ⟨t, rfl⟩, q⟩
def cLenD : List D → Option D
  | [.dic kvs] => some (.int kvs.length)
  | _ => none
theorem rc_lenDk {K : PySem.W.Frag} {cm : Cm} : RC K cm (fun xs H Q => ∃ a kvs, xs = [V.ref a] ∧ Rd H a (.dK kvs) ∧ Q (.int kvs.length) H) cLenD := by
  intro A H vs ds dz Q hd hl hr e k
  unfold cLenD at e
  split at e
  · cases e
    obtain ⟨v, rfl, r⟩ := hr.one
    obtain ⟨a, ks, rfl, hs, rl⟩ := r.di
    exact ⟨a, ks, rfl, hs, by rw [rl.length]; exact k _ H (.refl H) (.int _)⟩
  · cases e
@[simp] theorem cLenD_dic (kvs : List (DK × D)) : cLenD [.dic kvs] = some (.int kvs.length) := rfl
end G

set_option maxHeartbeats 2000000
/-! La58: comprehensions over one's own list: the list stays one's own, if what is made is scalar. -/
namespace G
open PySem PySem.Spec L2 PyProof.Rows
def thL (own : Bool) (ds : List D) (a b : Sl) : Option Sl := if own then some (.v (.ls ds)) else match a with
  | .no => some .no
  | .v (.p d) => some (.v (.p d))
  | .v _ => (match b with
    | .v t => if scT t then some (.v t) else none
    | _ => none)
  | .pin _ => (match b with
    | .pin t => if scT t then some (.pin t) else none
    | _ => none)
def thawL (i : Nat) (ds : List D) (j : Nat) : Rho → Rho → Option Rho
  | a :: as, b :: bs => (thL (j == i) ds a b).bind fun s => (thawL i ds (j + 1) as bs).map fun r => s :: r
  | [], [] => some []
  | _, _ => none
theorem thawL_at {i : Nat} {ds : List D} : ∀ {as bs : Rho} {j : Nat} {r : Rho}, thawL i ds j as bs = some r → r.length = as.length ∧ bs.length = as.length ∧ ∀ m s, r[m]? = some s → ∃ a b, as[m]? = some a ∧ bs[m]? = some b ∧ thL (j + m == i) ds a b = some s
  | [], [], j, r, e => by cases e; exact ⟨rfl, rfl, fun m s h => by simp at h⟩
  | [], _ :: _, j, r, e => by cases e
  | _ :: _, [], j, r, e => by cases e
  | a :: as, b :: bs, j, r, e => by
    simp only [thawL, Option.bind_eq_some_iff, Option.map_eq_some_iff] at e
    obtain ⟨s, e1, r', e2, rfl⟩ := e
    obtain ⟨h1, h2, h3⟩ := thawL_at e2
    refine ⟨by simp [h1], by simp [h2], fun m s' h => ?_⟩
    cases m with
    | zero => simp at h; subst h; exact ⟨a, b, rfl, rfl, e1⟩
    | succ m =>
      obtain ⟨a', b', x1, x2, x3⟩ := h3 m s' (by simpa using h)
      refine ⟨a', b', by simpa using x1, by simpa using x2, ?_⟩
      rw [show j + (m + 1) = j + 1 + m by omega]
      exact x3
section
variable {K : PySem.W.Frag} {cm : Cm} {A A' : AS} {H H' : Hp} {C : Fc} {σ : L2.St} {ρ ρ' ρ2 : Rho} {Y : List Addr}
theorem RS.frzL {i : Nat} {ds : List D} (R : RS K cm C A [] σ H ρ) (e : ρ[i]? = some (.v (.ls ds))) : ∃ A1 d xs, Lt C A H A1 H ∧ RS K cm C A1 [] σ H (ρ.set i (.v (.p (.lst ds)))) ∧ σ[i]? = some (some (.ref d)) ∧ H d = some (.lst xs) ∧ A d ∧ ¬ A1 d ∧ RpL K cm A H xs ds := by
  obtain ⟨F, h1, h2, h3, h4, h5⟩ := R.sl
  have hil : i < ρ.length := (List.getElem?_eq_some_iff.mp e).1
  obtain ⟨o, e1, v, rfl, rt, f⟩ := h5 i _ e
  have rt0 := rt
  obtain ⟨d, xs, rfl, eF, hd, rl⟩ := rt0
  have hdF : d ∈ F i := by rw [eF]; simp
  have lt : Lt C A H (fun a => A a ∧ a ∉ F i) H := (Lt.refl A H).less fun a z => z.1
  refine ⟨_, d, xs, lt, ⟨by rw [List.length_set]; exact R.len, ⟨fun j => if j = i then [] else F j, fun j => ?_, fun j k a m m' => ?_, fun j a m => ?_, fun j ej => ?_, fun j s ej => ?_⟩, fun a z => ⟨R.out a z, fun m => (h3 i a m).2.1 z⟩, fun a z => R.sub a z.1, fun a z => R.dom a z.1, R.fr, R.fd, R.tb, fun a z => R.ne a z.1⟩, e1, hd, (h3 i d hdF).1, fun z => z.2 hdF, rl⟩
  · dsimp only; split
    · exact .nil
    · exact h1 j
  · dsimp only at m m'
    split at m <;> split at m' <;> first | cases m | cases m' | exact h2 j k a m m'
  · dsimp only at m
    split at m
    · cases m
    · rename_i hj
      exact ⟨⟨(h3 j a m).1, fun z => hj (h2 j i a m z)⟩, (h3 j a m).2.1, fun z => nomatch z⟩
  · dsimp only
    split
    · rfl
    · rename_i hj
      rw [List.getElem?_set_ne (Ne.symm hj)] at ej
      exact h4 j ej
  · dsimp only
    by_cases hj : j = i
    · subst hj
      rw [List.getElem?_set_self hil] at ej; cases ej
      refine ⟨_, e1, ?_⟩
      rw [if_pos rfl]
      exact ⟨_, rfl, RT.pure (rt.frz lt.l fun a m z => z.2 m), fun a m => nomatch m⟩
    · rw [if_neg hj]
      rw [List.getElem?_set_ne (Ne.symm hj)] at ej
      obtain ⟨u, e2, r⟩ := h5 j s ej
      exact ⟨u, e2, r.keep lt.l fun a _ o q => fun _ => q⟩
theorem RS.thawL {i : Nat} {d : Addr} {xs : List V} {ds : List D} (R : RS K cm C A [] σ H ρ) (e : ρ[i]? = some (.v (.ls ds))) (hv : σ[i]? = some (some (.ref d))) (R3 : RS K cm C A' Y σ H' ρ') (l : Lt C A H A' H') (hd : H' d = some (.lst xs)) (hA : A d)
    (hk : RpL K cm A H xs ds) (hn : ¬ A' d) (hY : ∀ a ∈ Y, A' a) (th : G.thawL i ds 0 ρ ρ' = some ρ2) : Lt C A H (fun a => A' a ∨ a = d) H' ∧ RS K cm C (fun a => A' a ∨ a = d) Y σ H' ρ2 := by
  obtain ⟨F, h1, h2, h3, h4, h5⟩ := R.sl
  obtain ⟨G, g1, g2, g3, g4, g5⟩ := R3.sl
  obtain ⟨t1, t2, t3⟩ := thawL_at th
  obtain ⟨o, x1, v, rfl, ⟨b, ys, rfl, eF, hb, _⟩, f⟩ := h5 i _ e
  rw [hv] at x1; cases x1
  have l2 : Lt C A H (fun a => A' a ∨ a = d) H' := ⟨⟨l.l.st, fun a z => z.elim (l.l.nw a) fun z => .inl (by rw [z]; exact hA), l.l.dm⟩, l.o⟩
  have hd0 : d ∈ F i := by rw [eF]; simp
  have hA0 : ¬ C.A0 d := (h3 i d hd0).2.1
  have nG : ∀ m, d ∉ G m := fun m z => hn (g3 m d z).1
  refine ⟨l2, ⟨by rw [t1]; exact R.len, ⟨fun m => if m = i then [d] else if ownS ρ[m]? then G m else [], fun m => ?_, fun m m' a ha ha' => ?_, fun m a ha => ?_, fun m hm => ?_, fun m s hs => ?_⟩, fun a z => .inl (R3.out a z), fun a z => ?_, fun a z => ?_, R3.fr, R3.fd, R3.tb, fun a z φ => ?_⟩⟩
  · dsimp only
    split
    · exact List.nodup_cons.mpr ⟨fun z => (nomatch z), List.nodup_nil⟩
    · split
      · exact g1 m
      · exact List.nodup_nil
  · dsimp only at ha ha'
    split at ha
    · rename_i q
      split at ha'
      · rename_i q'; rw [q, q']
      · split at ha'
        · obtain rfl : a = d := by simpa using ha
          exact absurd ha' (nG m')
        · cases ha'
    · split at ha
      · split at ha'
        · obtain rfl : a = d := by simpa using ha'
          exact absurd ha (nG m)
        · split at ha'
          · exact g2 m m' a ha ha'
          · cases ha'
      · cases ha
  · dsimp only at ha
    split at ha
    · obtain rfl : a = d := by simpa using ha
      exact ⟨.inr rfl, hA0, fun z => hn (hY a z)⟩
    · split at ha
      · have := g3 m a ha
        exact ⟨.inl this.1, this.2⟩
      · cases ha
  · dsimp only
    have hl : ρ[m]? = none := by
      rw [List.getElem?_eq_none_iff] at hm ⊢
      omega
    split
    · rename_i q
      rw [q, e] at hl; cases hl
    · rw [hl]
      rfl
  · obtain ⟨a, b, y1, y2, y3⟩ := t3 m s hs
    obtain ⟨o, z1, z2⟩ := h5 m a y1
    refine ⟨o, z1, ?_⟩
    dsimp only
    unfold thL at y3
    split at y3
    · rename_i q
      have q' : m = i := by simpa using q
      cases y3
      rw [if_pos q']
      rw [q', hv] at z1; cases z1
      exact ⟨_, rfl, ⟨d, xs, rfl, rfl, hd, hk.later l2.l⟩, fun a m => by
        obtain rfl : a = d := by simpa using m
        exact f a hd0⟩
    · rename_i q
      have q' : ¬ m = i := by simpa using q
      rw [if_neg q', y1]
      split at y3
      · cases y3; rfl
      · rename_i dd
        cases y3
        obtain ⟨v, e1, r, f'⟩ := z2
        exact ⟨v, e1, ⟨rfl, r.2.later l2.l⟩, fun a m => nomatch m⟩
      · rename_i t0 hne
        split at y3
        · rename_i tt
          split at y3
          · rename_i hsc
            cases y3
            obtain ⟨o', w1, w2⟩ := g5 m _ y2
            rw [z1] at w1; cases w1
            obtain ⟨v, e1, r, f'⟩ := w2
            have ho : ownS (some (.v t0)) = true := by
              cases t0 with
              | p dd => exact absurd rfl (hne dd)
              | _ => rfl
            rw [if_pos ho]
            exact ⟨v, e1, rt_sc hsc r, f'⟩
          · cases y3
        · cases y3
      · split at y3
        · split at y3
          · rename_i hsc
            cases y3
            obtain ⟨o', w1, w2⟩ := g5 m _ y2
            rw [z1] at w1; cases w1
            obtain ⟨v, e1, e2, r, f'⟩ := w2
            exact ⟨v, e1, e2, rt_sc hsc r, f'⟩
          · cases y3
        · cases y3
  · rcases z with z | z
    · exact R3.sub a z
    · exact .inr (.inr (by rw [z]; exact f d hd0))
  · rcases z with z | z
    · exact R3.dom a z
    · rw [z, hd]; exact fun z => nomatch z
  · rcases z with z | z
    · exact R3.ne a z φ
    · rw [z, hd]; exact fun z => nomatch z
end
/-- [.. for .. in the own list of slot i], scalars made -/
def nLcL (own : List Nat) (i : Nat) (h : D → Rho → Option Rho) (g : Bm) (el : Em) : Rho → Option (T × Rho) := fun ρ => match ρ[i]? with
  | some (.v (.ls ds)) => if ds.length ≤ big then (wipeS own (ρ.set i (.v (.p (.lst ds))))).bind fun ρw => (lcF own h g el ds ρw).bind fun r => if scT (.ls r.1) then (thawL i ds 0 ρ (back (ρ.set i (.v (.p (.lst ds)))) r.2 own)).map fun ρ2 => (.ls r.1, ρ2) else none else none
  | _ => none
section
variable {X : Cx} {cm : Cm} {pos spos py : Pos} {elt e tg : Expr} {ifs : List Expr}
theorem lcOL_core {K : PySem.W.Frag} {i : Nat} {own is : List Nat} {h : D → Rho → Option Rho} {g : Bm} {el : Em} {σ : L2.St} {H : Hp} {Q : VK} (hsub : ∀ i ∈ is, i ∈ own) (hh : tN K cm (nLcL own i h g el) σ H Q) :
    tLc (tI K cm (iSeq (eKeep i))) (tG K cm is h) (tT K cm g) (tE K cm el) own σ H Q := by
  obtain ⟨C, A, ρ, t, ρ', R, q, k⟩ := hh
  unfold nLcL at q
  split at q
  rotate_left
  · cases q
  rename_i ds hi
  split at q
  rotate_left
  · cases q
  rename_i hbig
  simp only [Option.bind_eq_some_iff] at q
  obtain ⟨ρw, h2, ⟨all, ρ2⟩, h3, q⟩ := q
  dsimp only at q
  split at q
  rotate_left
  · cases q
  rename_i hsc
  rw [Option.map_eq_some_iff] at q
  obtain ⟨ρ4, hth, h4⟩ := q
  cases h4
  obtain ⟨A1, d, xs, l1, R1, hv, hd, hA, hn, hk⟩ := R.frzL hi
  have hil : i < ρ.length := (List.getElem?_eq_some_iff.mp hi).1
  have hkp : iSeq (eKeep i) (ρ.set i (.v (.p (.lst ds)))) = some (ds, ρ.set i (.v (.p (.lst ds)))) := by
    have : (ρ.set i (.v (.p (.lst ds))))[i]? = some (.v (.p (.lst ds))) := List.getElem?_set_self hil
    simp [this, keepAt, seqD]
  refine tLc_core (C := C) (A := A1) hsub (fun R' hR => ⟨C, A1, _, ds, _, R1, hkp, hR⟩) hbig h2 h3 fun v H' A' F l2 R3 rt hnd hF => ?_
  have hd' : H' d = some (.lst xs) := l2.l.st _ _ hd (fun _ z => nomatch z) hn
  have hn' : ¬ A' d := (l2.l.rd (.inl hd) hn).2
  obtain ⟨l5, R5⟩ := R.thawL hi hv R3 (l1.trans l2) hd' hA hk hn' (fun a m => (hF a m).2.1) hth
  exact k v _ _ F l5 R5 (rt_sc hsc rt) hnd fun a m => ⟨(hF a m).1, .inl (hF a m).2.1, (hF a m).2.2⟩
theorem fn_lcOL {j : Nat} {own : List (Str × Nat)} {scope : Scope} {is : List Nat} {h : D → Rho → Option Rho} {g : Bm} {el : Em} (hc : X.calm = true) (hN : X.N.Nodup) (ho : FE X cm e (eKeep j)) (ok : BlkOk X.N X.env.scope scope own)
    (hg : ∀ (s : Shared) (H : Hp) (C : Addr) (cl : List (Str × Addr)) (fp : List Addr), FG (X.blk s H scope (compEnvC scope cl C X.env) fp) cm tg is h) (ht : ∀ (s : Shared) (H : Hp) (C : Addr) (cl : List (Str × Addr)) (fp : List Addr), FTs (X.blk s H scope (compEnvC scope cl C X.env) fp) cm ifs g)
    (he : ∀ (s : Shared) (H : Hp) (C : Addr) (cl : List (Str × Addr)) (fp : List Addr), FE (X.blk s H scope (compEnvC scope cl C X.env) fp) cm elt el) (hsub : ∀ i ∈ is, i ∈ own.map (·.2)) (hs : ∀ x, foldedSetIterable e X.env x = pure x := by intro _; rfl) :
    FN X cm (.ListComp elt [⟨tg, e, ifs, 0⟩] scope pos) (nLcL (own.map (·.2)) j h g el) :=
  have p : PE X (.ListComp elt [⟨tg, e, ifs, 0⟩] scope pos) (tLc (tI X.K cm (iSeq (eKeep j))) (tG X.K cm is h) (tT X.K cm g) (tE X.K cm el) (own.map (·.2))) := pe_lc hc hN (fi_seq ho) ok hg ht he hs
  p.imp fun σ H Q q => lcOL_core hsub q
theorem fs_setLcOL {i : Nat} {y : Str} {j : Nat} {own : List (Str × Nat)} {scope : Scope} {is : List Nat} {h : D → Rho → Option Rho} {g : Bm} {el : Em} (hc : X.calm = true) (hN : X.N.Nodup) (hy : X.N[i]? = some y) (hyl : X.env.scope.names.lookup y = some .local)
    (hsw : swapsWith (.ListComp elt [⟨tg, e, ifs, 0⟩] scope pos) (some (.Name y py)) spos.line X.env = pure true) (ho : FE X cm e (eKeep j)) (ok : BlkOk X.N X.env.scope scope own)
    (hg : ∀ (s : Shared) (H : Hp) (C : Addr) (cl : List (Str × Addr)) (fp : List Addr), FG (X.blk s H scope (compEnvC scope cl C X.env) fp) cm tg is h) (ht : ∀ (s : Shared) (H : Hp) (C : Addr) (cl : List (Str × Addr)) (fp : List Addr), FTs (X.blk s H scope (compEnvC scope cl C X.env) fp) cm ifs g)
    (he : ∀ (s : Shared) (H : Hp) (C : Addr) (cl : List (Str × Addr)) (fp : List Addr), FE (X.blk s H scope (compEnvC scope cl C X.env) fp) cm elt el) (hsub : ∀ i ∈ is, i ∈ own.map (·.2)) (hs : ∀ x, foldedSetIterable e X.env x = pure x := by intro _; rfl) :
    FS X cm (.Assign [.Name y py] (.ListComp elt [⟨tg, e, ifs, 0⟩] scope pos) spos) (sAsg i (nLcL (own.map (·.2)) j h g el)) :=
  have p : PS X (.Assign [.Name y py] (.ListComp elt [⟨tg, e, ifs, 0⟩] scope pos) spos) (tAsg (tLc (tI X.K cm (iSeq (eKeep j))) (tG X.K cm is h) (tT X.K cm g) (tE X.K cm el) (own.map (·.2))) (gName i)) := ps_setLc hc hN hy hyl hsw (fi_seq ho) ok hg ht he hs
  ⟨fun pins s σ H D I q => p.run pins s σ H D I (lcOL_core hsub (sAsg_of q))⟩
end
def lclAt (own : List Nat) (i : Nat) (h : D → Rho → Option Rho) (g : Bm) (el : Em) (ρ : Rho) : Option Sl → Option (T × Rho)
  | some (.v (.ls ds)) => if ds.length ≤ big then (wipeS own (ρ.set i (.v (.p (.lst ds))))).bind fun ρw => (lcF own h g el ds ρw).bind fun r => if scT (.ls r.1) then (thawL i ds 0 ρ (back (ρ.set i (.v (.p (.lst ds)))) r.2 own)).map fun ρ2 => (.ls r.1, ρ2) else none else none
  | _ => none
@[simp] theorem lclAt_ls (own : List Nat) (i : Nat) (h : D → Rho → Option Rho) (g : Bm) (el : Em) (ρ : Rho) (ds : List D) : lclAt own i h g el ρ (some (.v (.ls ds))) = (if ds.length ≤ big then (wipeS own (ρ.set i (.v (.p (.lst ds))))).bind fun ρw => (lcF own h g el ds ρw).bind fun r => if scT (.ls r.1) then (thawL i ds 0 ρ (back (ρ.set i (.v (.p (.lst ds)))) r.2 own)).map fun ρ2 => (.ls r.1, ρ2) else none else none) := rfl
@[simp] theorem nLcL_ap (own : List Nat) (i : Nat) (h : D → Rho → Option Rho) (g : Bm) (el : Em) (ρ : Rho) : nLcL own i h g el ρ = lclAt own i h g el ρ ρ[i]? := rfl
@[simp] theorem thawL_cons (i : Nat) (ds : List D) (j : Nat) (a b : Sl) (as bs : Rho) : thawL i ds j (a :: as) (b :: bs) = (thL (j == i) ds a b).bind fun s => (thawL i ds (j + 1) as bs).map fun r => s :: r := rfl
@[simp] theorem thawL_nil (i : Nat) (ds : List D) (j : Nat) : thawL i ds j [] [] = some [] := rfl
@[simp] theorem thL_own (ds : List D) (a b : Sl) : thL true ds a b = some (.v (.ls ds)) := rfl
@[simp] theorem thL_no (ds : List D) (b : Sl) : thL false ds .no b = some .no := rfl
@[simp] theorem thL_p (ds : List D) (d : D) (b : Sl) : thL false ds (.v (.p d)) b = some (.v (.p d)) := rfl
@[simp] theorem thL_ls (ds : List D) (d e : List D) : thL false ds (.v (.ls d)) (.v (.ls e)) = if scT (.ls e) then some (.v (.ls e)) else none := rfl
end G

set_option maxHeartbeats 2000000
/-! La59: a < b < c < d; dict comprehensions over a dict; values of a dict walked; bits. -/
namespace G
open PySem PySem.Spec L2 PyProof.Rows
section
variable {X : Cx} {cm : Cm} {pos : Pos} {a b c d : Expr} {ta tb tc td : TE}
def tChain3 (r r' r'' : R2) (ta tb tc td : TE) : TE := fun σ H Q => ta σ H fun x H1 => tb σ H1 fun y H2 => r x y H2 fun z H3 => ∃ k, z = .bl k ∧
  (if k = true then tc σ H3 fun w' H4 => r' y w' H4 fun u H5 => ∃ k', u = .bl k' ∧ (if k' = true then td σ H5 fun v' H6 => r'' w' v' H6 Q else Q (.bl false) H5) else Q (.bl false) H3)
theorem pe_chain3 {op op' op'' : CmpOp} {r r' r'' : R2} (ho : OpR X (compareOp op) r) (ho' : OpR X (compareOp op') r') (ho'' : OpR X (compareOp op'') r'') (ha : PE X a ta) (hb : PE X b tb) (hc : PE X c tc) (hd : PE X d td)
    (hm : lastMarks [op, op', op''] [b, c, d] = false := by with_unfolding_all rfl) : PE X (.Compare a [op, op', op''] [b, c, d] pos) (tChain3 r r' r'' ta tb tc td) := by
  refine ⟨fun pins s σ H Q I h => ?_⟩
  refine Compare_chain (thn (ha.run pins s σ H _ I h) fun v s1 ⟨x, H1, I1, r1, q1⟩ => chain_link (thn (hb.run pins s1 σ H1 _ I1 q1) fun u s2 ⟨y, H2, I2, r2, q2⟩ =>
    thn (ho pins s2 σ H2 x y v u _ I2 r1 r2 q2) fun e s3 ⟨z, H3, I3, r3, k, e1, q3⟩ => ?_)) hm
  subst e1
  cases r3
  refine wpAny_truthy_bool ?_
  cases k with
  | false => exact ite_ff ⟨.bl false, H3, I3, rfl, q3⟩
  | true =>
    refine ite_tt (chain_link (thn (hc.run pins s3 σ H3 _ I3 q3) fun w' s4 ⟨z', H4, I4, r4, q4⟩ => thn (ho' pins s4 σ H4 y z' u w' _ I4 r2 r4 q4) fun e s5 ⟨z2, H5, I5, r5, k', e2, q5⟩ => ?_))
    subst e2
    cases r5
    refine wpAny_truthy_bool ?_
    cases k' with
    | false => exact ite_ff ⟨.bl false, H5, I5, rfl, q5⟩
    | true => exact ite_tt (chain_last (thn (hd.run pins s5 σ H5 _ I5 q5) fun v' s6 ⟨z3, H6, I6, r6, q6⟩ => ho'' pins s6 σ H6 z' z3 w' v' Q I6 r4 r6 q6))
def eChain3 (c1 c2 c3 : D → D → Option D) (f g h l : Em) : Em := fun ρ => (f ρ).bind fun p => (g p.2).bind fun q => (rd q.2 p.1).bind fun x => (rd q.2 q.1).bind fun y => (c1 x y).bind fun z => match z with
  | .bl true => (h q.2).bind fun r => (rd r.2 q.1).bind fun y' => (rd r.2 r.1).bind fun w => (c2 y' w).bind fun u => match u with
    | .bl true => (l r.2).bind fun t => (rd t.2 r.1).bind fun w' => (rd t.2 t.1).bind fun e => (c3 w' e).map fun m => (.val m, t.2)
    | .bl false => some (.val (.bl false), r.2)
    | _ => none
  | .bl false => some (.val (.bl false), q.2)
  | _ => none
theorem tChain3_of {K : PySem.W.Frag} {r1 r2 r3 : R2} {c1 c2 c3 : D → D → Option D} {f g h l : Em} {σ : L2.St} {H : Hp} {Q : VK} (h1 : RO K cm r1 c1) (h2 : RO K cm r2 c2) (h3 : RO K cm r3 c3) (hh : tE K cm (eChain3 c1 c2 c3 f g h l) σ H Q) : tChain3 r1 r2 r3 (tE K cm f) (tE K cm g) (tE K cm h) (tE K cm l) σ H Q := by
  obtain ⟨C, A, ρ, t, ρ', R, q, k⟩ := hh
  unfold eChain3 at q
  simp only [Option.bind_eq_some_iff] at q
  obtain ⟨⟨p, ρ1⟩, e1, ⟨q, ρ2⟩, e2, x, e3, y, e4, z, e5, e6⟩ := q
  refine ⟨C, A, ρ, p, ρ1, R, e1, fun v1 H1 A1 l1 R1 w1 => ⟨C, A1, ρ1, q, ρ2, R1, e2, fun v2 H2 A2 l2 R2 w2 => ?_⟩⟩
  refine h1 A2 H2 v1 v2 x y z _ R2.dom (rd_ok R2 (w1.later l2) e3) (rd_ok R2 w2 e4) e5 fun z' H3 g3 rz => ?_
  have R3 := R2.grow g3
  have l3 := (l1.trans l2).trans (Lt.same g3)
  dsimp only at e6
  split at e6
  · cases rz
    simp only [Option.bind_eq_some_iff] at e6
    obtain ⟨⟨r, ρ3⟩, e7, y', e8, w, e9, u, e10, e11⟩ := e6
    refine ⟨_, rfl, iteT ⟨C, A2, ρ2, r, ρ3, R3, e7, fun v4 H4 A4 l4 R4 w4 => ?_⟩⟩
    refine h2 A4 H4 v2 v4 y' w u _ R4.dom (rd_ok R4 ((w2.later (.same (C := C) g3)).later l4) e8) (rd_ok R4 w4 e9) e10 fun z5 H5 g5 rz5 => ?_
    have R5 := R4.grow g5
    have l5 := (l3.trans l4).trans (Lt.same g5)
    dsimp only at e11
    split at e11
    · cases rz5
      simp only [Option.bind_eq_some_iff, Option.map_eq_some_iff] at e11
      obtain ⟨⟨t, ρ4⟩, f1, w', f2, e, f3, m, f4, f5⟩ := e11
      cases f5
      refine ⟨_, rfl, iteT ⟨C, A4, ρ3, t, ρ4, R5, f1, fun v6 H6 A6 l6 R6 w6 => ?_⟩⟩
      exact h3 A6 H6 v4 v6 w' e m Q R6.dom (rd_ok R6 ((w4.later (.same (C := C) g5)).later l6) f2) (rd_ok R6 w6 f3) f4 fun z7 H7 g7 rz7 => k _ _ A6 ((l5.trans l6).trans (.same g7)) (R6.grow g7) rz7
    · cases rz5
      cases e11
      exact ⟨_, rfl, iteF (k _ _ A4 l5 R5 (.bl _))⟩
    · cases e11
  · cases rz
    cases e6
    exact ⟨_, rfl, iteF (k _ _ A2 l3 R3 (.bl _))⟩
  · cases e6
theorem fe_chain3 {op op' op'' : CmpOp} {r1 r2 r3 : R2} {c1 c2 c3 : D → D → Option D} {f g h l : Em} (ho : OpR X (compareOp op) r1) (ho' : OpR X (compareOp op') r2) (ho'' : OpR X (compareOp op'') r3) (h1 : RO X.K cm r1 c1) (h2 : RO X.K cm r2 c2) (h3 : RO X.K cm r3 c3) (ha : FE X cm a f) (hb : FE X cm b g) (hc : FE X cm c h) (hd : FE X cm d l) (hm : lastMarks [op, op', op''] [b, c, d] = false := by rfl) :
    FE X cm (.Compare a [op, op', op''] [b, c, d] pos) (eChain3 c1 c2 c3 f g h l) := (pe_chain3 ho ho' ho'' ha hb hc hd hm).imp fun _ _ _ q => tChain3_of h1 h2 h3 q
end
/-! ### {.. for .. in d} -/
section
variable {X : Cx} {cm : Cm} {pos : Pos} {kx vx tg iter : Expr} {ifs : List Expr}
theorem fn_dcK {i : Nat} {own : List (Str × Nat)} {scope : Scope} {is : List Nat} {h : D → Rho → Option Rho} {g : Bm} {ke ve : Em} (hc : X.calm = true) (hN : X.N.Nodup) (ho : PE X iter (tVar i)) (ok : BlkOk X.N X.env.scope scope own)
    (hg : ∀ (s : Shared) (H : Hp) (C : Addr) (cl : List (Str × Addr)) (fp : List Addr), FG (X.blk s H scope (compEnvC scope cl C X.env) fp) cm tg is h) (ht : ∀ (s : Shared) (H : Hp) (C : Addr) (cl : List (Str × Addr)) (fp : List Addr), FTs (X.blk s H scope (compEnvC scope cl C X.env) fp) cm ifs g)
    (hk : ∀ (s : Shared) (H : Hp) (C : Addr) (cl : List (Str × Addr)) (fp : List Addr), FE (X.blk s H scope (compEnvC scope cl C X.env) fp) cm kx ke) (he : ∀ (s : Shared) (H : Hp) (C : Addr) (cl : List (Str × Addr)) (fp : List Addr), FE (X.blk s H scope (compEnvC scope cl C X.env) fp) cm vx ve)
    (hsub : ∀ i ∈ is, i ∈ own.map (·.2)) (hs : ∀ x, foldedSetIterable iter X.env x = pure x := by intro _; rfl) : FN X cm (.DictComp kx vx [⟨tg, iter, ifs, 0⟩] scope pos) (nDc (own.map (·.2)) (iKey i) h g ke ve) :=
  ((pe_lock (pe_dc hc hN (pi_keys ho) ok hg ht hk he hs)).or (pe_dc hc hN (pi_keys ho) ok hg ht hk he hs)).imp fun σ H Q ⟨C, A, ρ, t, ρ', R, q, k⟩ => by
    unfold nDc iKey at q
    simp only [Option.bind_eq_some_iff, Option.map_eq_some_iff] at q
    obtain ⟨⟨ds, ρ1⟩, ⟨⟨kvs, ρ1'⟩, h0, h0'⟩, q⟩ := q
    cases h0'
    dsimp only at q
    split at q
    rotate_left
    · cases q
    rename_i hbig
    simp only [Option.bind_eq_some_iff, Option.map_eq_some_iff] at q
    obtain ⟨ρw, h2, ⟨all, ρ2⟩, h3, h4⟩ := q
    cases h4
    obtain ⟨A1, d, ks, l1, R1, hv, hd, hn, hk⟩ := dicS_ok R h0
    rcases hd with hd | ⟨od, hd⟩
    · refine .inl ⟨d, .dK ks, hd, trivial, fun od => ?_⟩
      have s : Sw d ks H (upd H d (.frz od (.dK ks))) := ⟨.inl hd, .inr ⟨od, upd_same⟩, fun x q => upd_ne q⟩
      have R2 := R1.sw (o := .frz od (.dK ks)) s hn
      refine tDc_core (C := C.sw d (.frz od (.dK ks))) (A := A1) hsub (fun R' hR => ⟨_, hv, d, od, rfl, .inl ⟨ks, upd_same, hR _ _ A1 _ (.refl _ _) R2 it_keys ⟨upd_same, hn, hk.sw s⟩⟩⟩) hbig h2 h3 fun v H' A' F l2 R3 rt hnd hF => ?_
      have hd' : H' d = some (.frz od (.dK ks)) := l2.l.st _ _ upd_same pl_frz.1 hn
      have hn' : ¬ A' d := (l2.l.rd (.inl upd_same) hn).2
      have s' : Sw d ks H' (upd H' d (.dK ks)) := ⟨.inr ⟨od, hd'⟩, .inl upd_same, fun x q => upd_ne q⟩
      refine ⟨hd', k v _ A' F (l1.trans (Lt.unsw (ks := ks) hd hn (fun z => hn (R1.out d z)) l2)) (R3.unsw s' hn' fun x e tn np => ?_) (rt.sw s' fun m => hn' (hF d m).2.1) hnd fun a m => ⟨sw_none.mp (hF a m).1, (hF a m).2⟩⟩
      have := R1.fr d x e tn np
      rw [hd] at this; cases this; rfl
    · refine .inr (tDc_core (C := C) (A := A1) hsub (fun R' hR => ⟨_, hv, d, od, rfl, .inl ⟨ks, hd, hR _ _ A1 _ (.refl _ _) R1 it_keys ⟨hd, hn, hk⟩⟩⟩) hbig h2 h3 fun v H' A' F l2 R3 rt hnd hF => k v H' A' F (l1.trans l2) R3 rt hnd hF)
end
/-! ### bits of whole numbers that are not below nought -/
def cOr : D → D → Option D
  | .int i, .int j => some (.int (Builtin.bitOr i j))
  | _, _ => none
def cAndB : D → D → Option D
  | .int i, .int j => some (.int (Builtin.bitAnd i j))
  | _, _ => none
def cXor : D → D → Option D
  | .int i, .int j => some (.int (Builtin.bitXor i j))
  | _, _ => none
theorem ro_Ib {K : PySem.W.Frag} {cm : Cm} {f : Int → Int → Int} {c : D → D → Option D} (h : ∀ x y z, c x y = some z → ∃ i j, x = .int i ∧ y = .int j ∧ z = .int (f i j)) : RO K cm (rI0 fun i j => .int (f i j)) c := by
  intro A H x y dx dy dz Q hd hx hy e k
  obtain ⟨i, j, rfl, rfl, rfl⟩ := h _ _ _ e
  cases hx.int
  cases hy.int
  exact ⟨_, _, rfl, rfl, k _ H (.refl H) (.int _)⟩
theorem ro_or {K : PySem.W.Frag} {cm : Cm} : RO K cm (rI0 fun i j => .int (Builtin.bitOr i j)) cOr := ro_Ib fun x y z h => by
  unfold cOr at h
  split at h <;> cases h
  exact ⟨_, _, rfl, rfl, rfl⟩
theorem ro_andB {K : PySem.W.Frag} {cm : Cm} : RO K cm (rI0 fun i j => .int (Builtin.bitAnd i j)) cAndB := ro_Ib fun x y z h => by
  unfold cAndB at h
  split at h <;> cases h
  exact ⟨_, _, rfl, rfl, rfl⟩
theorem ro_xor {K : PySem.W.Frag} {cm : Cm} : RO K cm (rI0 fun i j => .int (Builtin.bitXor i j)) cXor := ro_Ib fun x y z h => by
  unfold cXor at h
  split at h <;> cases h
  exact ⟨_, _, rfl, rfl, rfl⟩
@[simp] theorem eChain3_ap (c1 c2 c3 : D → D → Option D) (f g h l : Em) (ρ : Rho) : eChain3 c1 c2 c3 f g h l ρ = ((f ρ).bind fun p => (g p.2).bind fun q => (rd q.2 p.1).bind fun x => (rd q.2 q.1).bind fun y => (c1 x y).bind fun z => match z with
  | .bl true => (h q.2).bind fun r => (rd r.2 q.1).bind fun y' => (rd r.2 r.1).bind fun w => (c2 y' w).bind fun u => match u with
    | .bl true => (l r.2).bind fun t => (rd t.2 r.1).bind fun w' => (rd t.2 t.1).bind fun e => (c3 w' e).map fun m => (.val m, t.2)
    | .bl false => some (.val (.bl false), r.2)
    | _ => none
  | .bl false => some (.val (.bl false), q.2)
  | _ => none) := rfl
end G

/-! La60: defs as values (D.fn), tables of the module whose values are defs, calls of what a name holds. -/
namespace G
open PySem PySem.Spec L2

/-- the table at the N-th address; what is told of its keys -/
def KTb (K : PySem.W.Frag) (w : World) (cm : Cm) (N : Nat) (tb : List (List Nat × Option D)) : Prop :=
  (∃ es n, KDict K w (cm N) es n) ∧ ∀ p ∈ tb, (p.2 = none → PySem.W.nsIn K (cm N) (S p.1) = some none) ∧ ∀ e, p.2 = some e → ∃ u v, PySem.W.nsIn K (cm N) (S p.1) = some (some u) ∧ RelV v u ∧ ∀ A H, Rp K cm A H v e
def tbAt (tb : List (List Nat × Option D)) (s : List Nat) : Option (Option D) := (tb.find? fun p => p.1 == s).map (·.2)
theorem tbAt_mem {tb : List (List Nat × Option D)} {s : List Nat} {o : Option D} (h : tbAt tb s = some o) : (s, o) ∈ tb := by
  unfold tbAt at h
  rw [Option.map_eq_some_iff] at h
  obtain ⟨p, h1, h2⟩ := h
  have e := List.find?_some h1
  have m := List.mem_of_find?_eq_some h1
  obtain ⟨a, b⟩ := p
  simp at e h2
  subst e; subst h2
  exact m
def cTbIn (N : Nat) (tb : List (List Nat × Option D)) (d e : D) : Option D := match d, e with
  | .str s, .fn n => if n = N then (tbAt tb s).map fun r => .bl r.isSome else none
  | _, _ => none
def cTbNi (N : Nat) (tb : List (List Nat × Option D)) (d e : D) : Option D := match d, e with
  | .str s, .fn n => if n = N then (tbAt tb s).map fun r => .bl (!r.isSome) else none
  | _, _ => none
def cTbIx (N : Nat) (tb : List (List Nat × Option D)) (e d : D) : Option D := match d, e with
  | .str s, .fn n => if n = N then (tbAt tb s).bind id else none
  | _, _ => none
section
variable {X : Cx} {K : PySem.W.Frag} {w : World} {cm : Cm} {N : Nat} {tb : List (List Nat × Option D)}
theorem Ro.fn {A : AS} {H : Hp} {v : V} {n : Nat} (h : Ro K cm A H v (.fn n)) : v = .ref (cm n) := by
  cases h with
  | of h => cases h; rfl
theorem op_tbIn (h : KTb X.K X.w cm N tb) : OpR X (compareOp .In) (fun x y H Q => ∃ (z : Str) (r : Option Value), x = .str z ∧ y = .ref (cm N) ∧ PySem.W.nsIn X.K (cm N) z = some r ∧ Q (.bl r.isSome) H) := by
  obtain ⟨⟨es, n, D⟩, _⟩ := h
  exact op_in_kd D
theorem op_tbNi (h : KTb X.K X.w cm N tb) : OpR X (compareOp .NotIn) (fun x y H Q => ∃ (z : Str) (r : Option Value), x = .str z ∧ y = .ref (cm N) ∧ PySem.W.nsIn X.K (cm N) z = some r ∧ Q (.bl (!r.isSome)) H) := by
  obtain ⟨⟨es, n, D⟩, _⟩ := h
  exact op_notIn_kd D
theorem tb_ns (h : KTb K w cm N tb) {s : List Nat} {o : Option D} (e : tbAt tb s = some o) : ∃ r, PySem.W.nsIn K (cm N) (S s) = some r ∧ r.isSome = o.isSome := by
  have m := h.2 _ (tbAt_mem e)
  cases o with
  | none => exact ⟨none, m.1 rfl, rfl⟩
  | some d =>
    obtain ⟨u, v, h1, _⟩ := m.2 d rfl
    exact ⟨some u, h1, rfl⟩
theorem ro_tbIn (h : KTb K w cm N tb) : RO K cm (fun x y H Q => ∃ (z : Str) (r : Option Value), x = .str z ∧ y = .ref (cm N) ∧ PySem.W.nsIn K (cm N) z = some r ∧ Q (.bl r.isSome) H) (cTbIn N tb) := by
  intro A H x y dx dy dz Q hd hx hy e k
  cases dx <;> (try cases e)
  cases dy <;> (try cases e)
  rename_i s n
  simp only [cTbIn] at e
  split at e
  · rename_i hn
    subst hn
    rw [Option.map_eq_some_iff] at e
    obtain ⟨o, e1, rfl⟩ := e
    cases hx.str
    rw [hy.fn]
    obtain ⟨r, h1, h2⟩ := tb_ns h e1
    exact ⟨S s, r, rfl, rfl, h1, by rw [h2]; exact k _ H (.refl H) (.bl _)⟩
  · cases e
theorem ro_tbNi (h : KTb K w cm N tb) : RO K cm (fun x y H Q => ∃ (z : Str) (r : Option Value), x = .str z ∧ y = .ref (cm N) ∧ PySem.W.nsIn K (cm N) z = some r ∧ Q (.bl (!r.isSome)) H) (cTbNi N tb) := by
  intro A H x y dx dy dz Q hd hx hy e k
  cases dx <;> (try cases e)
  cases dy <;> (try cases e)
  rename_i s n
  simp only [cTbNi] at e
  split at e
  · rename_i hn
    subst hn
    rw [Option.map_eq_some_iff] at e
    obtain ⟨o, e1, rfl⟩ := e
    cases hx.str
    rw [hy.fn]
    obtain ⟨r, h1, h2⟩ := tb_ns h e1
    exact ⟨S s, r, rfl, rfl, h1, by rw [h2]; exact k _ H (.refl H) (.bl _)⟩
  · cases e
theorem ro_tbIx (h : KTb K w cm N tb) : RO K cm (rIxD K w) (cTbIx N tb) := by
  intro A H x y dx dy dz Q hd hx hy e k
  cases dy <;> (try cases e)
  cases dx <;> (try cases e)
  rename_i s n
  simp only [cTbIx] at e
  split at e
  · rename_i hn
    subst hn
    rw [Option.bind_eq_some_iff] at e
    obtain ⟨o, e1, e2⟩ := e
    cases (show o = some dz from e2)
    cases hy.str
    rw [hx.fn]
    obtain ⟨u, v, h1, h2, h3⟩ := (h.2 _ (tbAt_mem e1)).2 dz rfl
    obtain ⟨es, m, D⟩ := h.1
    exact ⟨_, _, v, rfl, rfl, ⟨es, m, u, D.at_, D.lit, h1, h2⟩, k v H (.refl H) (h3 A H)⟩
  · cases e
end
section
variable {X : Cx} {cm : Cm} {pos p : Pos} {a b e : Expr} {es : List Expr} {N : Nat} {tb : List (List Nat × Option D)}
theorem fe_tbIx {f g : Em} (h : KTb X.K X.w cm N tb) (ha : FE X cm a f) (hb : FE X cm b g) (hs : PlainIx b := by exact fun _ _ => rfl) : FE X cm (.Subscript a b pos) (eOp (cTbIx N tb) f g) :=
  (pe_ix ix_kdict ha hb hs).imp fun _ _ _ q => tOp_of (ro_tbIx h) q

/-! ### a call of what a name holds -/
def fnAt (ρ : Rho) (i : Nat) : Option Nat := match ρ[i]? with
  | some (.v (.p (.fn n))) => some n
  | some (.pin (.p (.fn n))) => some n
  | _ => none
abbrev FTab := Nat → Option (Nat × (Rho → Option (T × Rho)))
def nCallV (i : Nat) (tab : FTab) (g : Am) : Rho → Option (T × Rho) := fun ρ => (fnAt ρ i).bind fun n => (tab n).bind fun nm => nCall nm.1 nm.2 g ρ
/-- the defs told by number -/
def FTok (P : Program) (w : World) (K : PySem.W.Frag) (mg : Str → Option Value) (base : Heap) (cm : Cm) (k : Nat) (tab : FTab) : Prop :=
  ∀ n np m, tab n = some (np, m) → ∃ fd ps, ps.length = np ∧ FnG P w K mg base cm k (cm n) fd ps m ∧ PySem.W.keepIn K (.ref (cm n)) = true ∧ Binds K fd ps []
theorem fnAt_ok {K : PySem.W.Frag} {C : Fc} {A : AS} {Y : List Addr} {σ : L2.St} {H : Hp} {ρ : Rho} {i n : Nat} (R : RS K cm C A Y σ H ρ) (h : fnAt ρ i = some n) : σ[i]? = some (some (.ref (cm n))) := by
  obtain ⟨F, h1, h2, h3, h4, h5⟩ := R.sl
  unfold fnAt at h
  split at h
  · rename_i m q
    cases h
    obtain ⟨o, e1, v, rfl, r, _⟩ := h5 i _ q
    rw [e1]
    have := r.2
    cases this; rfl
  · rename_i m q
    cases h
    obtain ⟨o, e1, v, rfl, _, r, _⟩ := h5 i _ q
    rw [e1]
    have := r.2
    cases this; rfl
  · cases h
theorem fn_callV {k j i : Nat} {x : Str} {tab : FTab} {g : Am} (D : FTok X.prog X.w X.K X.mg X.base cm k tab) (hr : Room j X.A) (hk : k ≤ j) (hN : X.N[i]? = some x) (hv : Vis X.env.scope x) (ha : FA X cm (e :: es) g)
    (hdb : (x == ("__debug__" : Str)) = false := by decide) (hcd : (x == ("__classdict__" : Str)) = false := by decide) (he : starEach (e :: es) X.env = (false, eval e X.env) :: starEach es X.env := by rfl) (hpl : (backTo pos (starEach es X.env)).any (·.1) = false := by rfl) :
    FN X cm (.Call (.Name x p) (e :: es) [] pos) (nCallV i tab g) := by
  refine ⟨fun pins s σ H Q I h => ?_⟩
  obtain ⟨C, A, ρ, t, ρ', R, q, kk⟩ := h
  unfold nCallV at q
  simp only [Option.bind_eq_some_iff] at q
  obtain ⟨n, q1, ⟨np, m⟩, q2, q3⟩ := q
  obtain ⟨fd, ps, hl, F, kp, hb⟩ := D n np m q2
  subst hl
  exact (pe_callL (E := E0) F (hr.mono hk) hN hv kp hb .nil pass0 ha hdb hcd he hpl).run pins s σ H Q I ⟨fnAt_ok R q1, tN_call ⟨C, A, ρ, t, ρ', R, q3, kk⟩⟩
end
theorem fnAt_ap (ρ : Rho) (i : Nat) : fnAt ρ i = match ρ[i]? with
  | some (.v (.p (.fn n))) => some n
  | some (.pin (.p (.fn n))) => some n
  | _ => none := rfl
@[simp] theorem nCallV_ap (i : Nat) (tab : FTab) (g : Am) (ρ : Rho) : nCallV i tab g ρ = ((fnAt ρ i).bind fun n => (tab n).bind fun nm => nCall nm.1 nm.2 g ρ) := rfl
end G

/-! La61: zip of two lists or two tuples; len(set(text)). -/
namespace G
open PySem PySem.Spec PyProof.Rows L2 RZ

def zipD (xs ys : List D) : List D := (xs.zip ys).map fun p => .tup [p.1, p.2]
theorem zipD_at {xs ys : List D} {i : Nat} {d : D} (h : (zipD xs ys)[i]? = some d) : ∃ x y, xs[i]? = some x ∧ ys[i]? = some y ∧ d = .tup [x, y] := by
  simp only [zipD, List.getElem?_map, Option.map_eq_some_iff] at h
  obtain ⟨⟨x, y⟩, h1, rfl⟩ := h
  rw [List.getElem?_zip_eq_some] at h1
  exact ⟨x, y, h1.1, h1.2, rfl⟩
theorem zipD_length (xs ys : List D) : (zipD xs ys).length = min xs.length ys.length := by simp [zipD]
def iZiA (g : Am) : Im := fun ρ => (g ρ).bind fun p => (pus p.2 p.1).bind fun es => match es with
  | [.lst x, .lst y] => some (zipD x y, p.2)
  | [.tup x, .tup y] => some (zipD x y, p.2)
  | _ => none
section
variable {X : Cx} {cm : Cm} {pos p : Pos} {e e2 : Expr}
theorem it_zip {K : PySem.W.Frag} {a b : Addr} {ds es : List D} : ItOk K cm (Itz K a b) (fun A H => ∃ xs ys, SL K A H a xs ∧ SL K A H b ys ∧ RpL K cm A H xs ds ∧ RpL K cm A H ys es) (zipD ds es) where
  stay := fun _ _ _ _ ⟨xs, ys, s, s2, r, r2⟩ l => ⟨xs, ys, s.later l, s2.later l, r.later l, r2.later l⟩
  go := fun A H i ⟨xs, ys, s, s2, r, r2⟩ h => by
    rw [zipD_length, ← r.length, ← r2.length] at h
    have h1 : i < xs.length := by omega
    have h2 : i < ys.length := by omega
    exact ⟨xs, ys, xs[i], ys[i], s.sq, s2.sq, List.getElem?_eq_getElem h1, List.getElem?_eq_getElem h2⟩
  yld := fun A H i x H' d ⟨xs, ys, s, s2, r, r2⟩ hdom e hy => by
    obtain ⟨T, y, z, rfl, hT, rfl, hx, hz⟩ := hy
    obtain ⟨d1, d2, e1, e2, rfl⟩ := zipD_at e
    obtain ⟨v, h1, h2⟩ := r.get e1
    obtain ⟨v', h1', h2'⟩ := r2.get e2
    have q := hx xs s.sq
    have q' := hz ys s2.sq
    rw [h1] at q; cases q
    rw [h1'] at q'; cases q'
    exact ⟨same_new hT, new_tup hdom hT (.cons h2 (.one h2'))⟩
  stop := fun A H i ⟨xs, ys, s, s2, r, r2⟩ h => by
    rw [zipD_length, ← r.length, ← r2.length] at h
    exact ⟨xs, ys, s.sq, s2.sq, by omega⟩
theorem it_zipT {K : PySem.W.Frag} {a b : Addr} {ds es : List D} : ItOk K cm (ItzT K a b) (fun A H => ∃ xs ys, ST K A H a xs ∧ ST K A H b ys ∧ RpL K cm A H xs ds ∧ RpL K cm A H ys es) (zipD ds es) where
  stay := fun _ _ _ _ ⟨xs, ys, s, s2, r, r2⟩ l => ⟨xs, ys, s.later l, s2.later l, r.later l, r2.later l⟩
  go := fun A H i ⟨xs, ys, s, s2, r, r2⟩ h => by
    rw [zipD_length, ← r.length, ← r2.length] at h
    have h1 : i < xs.length := by omega
    have h2 : i < ys.length := by omega
    exact ⟨xs, ys, xs[i], ys[i], s.sq, s2.sq, List.getElem?_eq_getElem h1, List.getElem?_eq_getElem h2⟩
  yld := fun A H i x H' d ⟨xs, ys, s, s2, r, r2⟩ hdom e hy => by
    obtain ⟨T, y, z, rfl, hT, rfl, hx, hz⟩ := hy
    obtain ⟨d1, d2, e1, e2, rfl⟩ := zipD_at e
    obtain ⟨v, h1, h2⟩ := r.get e1
    obtain ⟨v', h1', h2'⟩ := r2.get e2
    have q := hx xs s.sq
    have q' := hz ys s2.sq
    rw [h1] at q; cases q
    rw [h1'] at q'; cases q'
    exact ⟨same_new hT, new_tup hdom hT (.cons h2 (.one h2'))⟩
  stop := fun A H i ⟨xs, ys, s, s2, r, r2⟩ h => by
    rw [zipD_length, ← r.length, ← r2.length] at h
    exact ⟨xs, ys, s.sq, s2.sq, by omega⟩
theorem fi_ziA {g : Am} {tpos : Pos} {elts : List Expr} {kk : Nat} (hg : Gl X "zip") (hm : X.mg "zip" = none) (ha : FA X cm [e, e2] g)
    (hs : starEach [e, e2] X.env = (false, eval e X.env) :: starEach [e2] X.env := by rfl) (hpl : (backTo pos (starEach [e2] X.env)).any (·.1) = false := by rfl) : FI X cm (.Tuple elts kk tpos) (.Call (.Name "zip" p) [e, e2] [] pos) (iZiA g) :=
  (pi_zipA hg hm ha hs hpl).imp fun σ H R ⟨C, A, ρ, ds, ρ', RS0, q, k⟩ => by
    unfold iZiA at q
    simp only [Option.bind_eq_some_iff] at q
    obtain ⟨⟨rs, ρ1⟩, h1, es, h2, h3⟩ := q
    refine ⟨C, A, ρ, rs, ρ1, RS0, h1, fun vs H1 A1 l1 R1 w1 => ?_⟩
    have r := pus_ok R1 w1 h2
    dsimp only at h3
    split at h3
    · cases h3
      cases r with
      | cons r1 r => cases r with
        | cons r2 r => cases r with
          | nil => cases r1 with
            | lst s rl => cases r2 with
              | lst s2 rl2 => exact ⟨_, _, _, _, rfl, .inl ⟨s.sq, s2.sq, k _ H1 A1 _ l1 R1 it_zip ⟨_, _, s, s2, rl, rl2⟩⟩⟩
    · cases h3
      cases r with
      | cons r1 r => cases r with
        | cons r2 r => cases r with
          | nil => cases r1 with
            | tup s rl => cases r2 with
              | tup s2 rl2 => exact ⟨_, _, _, _, rfl, .inr ⟨s.sq, s2.sq, k _ H1 A1 _ l1 R1 it_zipT ⟨_, _, s, s2, rl, rl2⟩⟩⟩
    · cases h3
@[simp] theorem iZiA_ap (g : Am) (ρ : Rho) : iZiA g ρ = ((g ρ).bind fun p => (pus p.2 p.1).bind fun es => match es with
  | [.lst x, .lst y] => some (zipD x y, p.2)
  | [.tup x, .tup y] => some (zipD x y, p.2)
  | _ => none) := rfl

/-! ### len(set(text)) -/
theorem tr_size {w : World} {h : Heap} {a : Addr} {cs : List Nat} {c : Nat} (R : TR w h a (mT cs) c) : c = (ssort cs).length := by
  obtain ⟨ob, en, ep, tb, h1, h2, h3, h4, nd, mm, h5, h6, h7, _⟩ := R
  have e1 : en.toList.map kT = (en.toList.map kT) := rfl
  have n2 : ((ssort cs).map sg).Nodup := by
    rw [List.Nodup, List.pairwise_map]
    exact (ssort_lt cs).imp fun {a b} q z => by
      have := S_inj (a := [a]) (b := [b]) z
      simp at this
      omega
  have p : (en.toList.map kT).Perm ((ssort cs).map sg) := (List.perm_ext_iff_of_nodup nd n2).mpr fun k => by
    rw [← mm k]
    unfold mT
    simp only [decide_eq_true_eq, List.mem_map]
    exact ⟨fun ⟨x, m, e⟩ => ⟨x, (mem_ssort x cs).mpr m, e⟩, fun ⟨x, m, e⟩ => ⟨x, (mem_ssort x cs).mp m, e⟩⟩
  have := p.length_eq
  rw [List.length_map, List.length_map, Array.length_toList] at this
  omega
def tLenSetS (ta : TE) : TE := fun σ H Q => ta σ H fun x H1 => ∃ (z : Str), x = V.str z ∧ z.cps.size < 1000 ∧ Q (.int (ssort z.cps.toList).length) H1
theorem pe_lenSetS {a : Expr} {ta : TE} {p p2 q pos : Pos} (hc : X.calm = true) (hg : Gl X "len") (hm : X.mg "len" = none) (hg2 : Gl X "set") (hm2 : X.mg "set" = none) (ha : PE X a ta)
    (na : starEach [a] X.env = (false, eval a X.env) :: starEach [] X.env := by rfl) : PE X (.Call (.Name "len" p) [.Call (.Name "set" p2) [a] [] q] [] pos) (tLenSetS ta) := by
  refine ⟨fun pins s σ H Q I h => ?_⟩
  refine Call_ (ld_blt I hg hm PySem.boot_len ?_)
  refine PyProof.Rows.callWith_builtin1 (PyProof.Rows.args_cons ?_ rfl) rfl rfl
  refine Call_ (ld_blt I hg2 hm2 PyProof.Rows.boot_set ?_)
  refine PyProof.Rows.callWith_type1 (PyProof.Rows.args_cons (thn (ha.run pins s σ H _ I h) fun v s1 ⟨x, H1, I1, r1, q1⟩ => PyProof.Rows.args_nil ?_) na) na rfl
  obtain ⟨z, rfl, hz, q1⟩ := q1
  obtain ⟨t, rfl⟩ := r1
  refine call_set_txt (I1.ok.hd hc) (by unfold scanBound; omega) fun h' tk c hS hcl hk => ?_
  refine PyProof.Rows.args_nil ?_
  have I2 : Inv X pins σ H1 { s1 with heap := h', toks := tk } := I1.kept hk
  have e := tr_size hS
  obtain ⟨o, en, ep, tb, ho, hex, hd, g4, nd, hmem, hb, hf, hn, _⟩ := hS
  refine call_len_set ho hex hd hf (by unfold scanBound at hb; omega) ⟨.int (ssort z.cps.toList).length, H1, I2.tok _, ⟨_, by rw [hn, e]⟩, q1⟩
def eLenSetS (f : Em) : Em := fun ρ => (f ρ).bind fun p => (rd p.2 p.1).bind fun d => match d with
  | .str s => if s.length < 1000 then some (.val (.int (ssort s).length), p.2) else none
  | _ => none
theorem fe_lenSetS {f : Em} {a : Expr} {p p2 q pos : Pos} (hc : X.calm = true) (hg : Gl X "len") (hm : X.mg "len" = none) (hg2 : Gl X "set") (hm2 : X.mg "set" = none) (ha : FE X cm a f)
    (na : starEach [a] X.env = (false, eval a X.env) :: starEach [] X.env := by rfl) : FE X cm (.Call (.Name "len" p) [.Call (.Name "set" p2) [a] [] q] [] pos) (eLenSetS f) :=
  (pe_lenSetS hc hg hm hg2 hm2 ha na).imp fun σ H Q ⟨C, A, ρ, t, ρ', R, q, kk⟩ => by
  unfold eLenSetS at q
  simp only [Option.bind_eq_some_iff] at q
  obtain ⟨⟨r, ρ1⟩, h1, d, h2, h3⟩ := q
  dsimp only at h3
  split at h3
  · rename_i s
    split at h3
    · rename_i hz
      cases h3
      refine ⟨C, A, ρ, r, _, R, h1, fun v H1 A1 l1 R1 w1 => ?_⟩
      cases (rd_ok R1 w1 h2).str
      refine ⟨S s, rfl, by simpa [S] using hz, ?_⟩
      have e : (S s).cps.toList = s := S_cps s
      rw [e]
      exact kk _ _ _ l1 R1 (.int _)
    · cases h3
  · cases h3
@[simp] theorem eLenSetS_ap (f : Em) (ρ : Rho) : eLenSetS f ρ = ((f ρ).bind fun p => (rd p.2 p.1).bind fun d => match d with
  | .str s => if s.length < 1000 then some (.val (.int (ssort s).length), p.2) else none
  | _ => none) := rfl
end
end G

/-! La62: name = [.. for .. for ..] on one line. -/
namespace G
open PySem PySem.Spec PyProof.Rows L2
section
variable {X : Cx} {cm : Cm} {pos : Pos} {elt tg iter tg1 iter1 : Expr} {ifs ifs1 : List Expr}
theorem fs_setLc2 {i : Nat} {y : Str} {py spos : Pos} {own : List (Str × Nat)} {own1 : List Nat} {scope : Scope} {is is1 : List Nat} {f f1 : Im} {h h1 : D → Rho → Option Rho} {g g1 : Bm} {el : Em} (hc : X.calm = true) (hN : X.N.Nodup) (hy : X.N[i]? = some y) (hyl : X.env.scope.names.lookup y = some .local)
    (hsw : swapsWith (.ListComp elt [⟨tg, iter, ifs, 0⟩, ⟨tg1, iter1, ifs1, 0⟩] scope pos) (some (.Name y py)) spos.line X.env = pure true) (hi : FI X cm tg iter f) (ok : BlkOk X.N X.env.scope scope own) (hv : ∀ i ∈ own1, i ∈ own.map (·.2))
    (hg : ∀ (s : Shared) (H : Hp) (C : Addr) (cl : List (Str × Addr)) (fp : List Addr), FG (X.blk s H scope (compEnvC scope cl C X.env) fp) cm tg is h) (ht : ∀ (s : Shared) (H : Hp) (C : Addr) (cl : List (Str × Addr)) (fp : List Addr), FTs (X.blk s H scope (compEnvC scope cl C X.env) fp) cm ifs g)
    (hi1 : ∀ (s : Shared) (H : Hp) (C : Addr) (cl : List (Str × Addr)) (fp : List Addr), FI (X.blk s H scope (compEnvC scope cl C X.env) fp) cm tg1 iter1 f1)
    (hg1 : ∀ (s : Shared) (H : Hp) (C : Addr) (cl : List (Str × Addr)) (fp : List Addr), FG (X.blk s H scope (compEnvC scope cl C X.env) fp) cm tg1 is1 h1) (ht1 : ∀ (s : Shared) (H : Hp) (C : Addr) (cl : List (Str × Addr)) (fp : List Addr), FTs (X.blk s H scope (compEnvC scope cl C X.env) fp) cm ifs1 g1)
    (he : ∀ (s : Shared) (H : Hp) (C : Addr) (cl : List (Str × Addr)) (fp : List Addr), FE (X.blk s H scope (compEnvC scope cl C X.env) fp) cm elt el) (hsub : ∀ i ∈ is, i ∈ own.map (·.2)) (hsub1 : ∀ i ∈ is1, i ∈ own1) (hs : ∀ x, foldedSetIterable iter X.env x = pure x := by intro _; rfl) (hs1 : ∀ env x, foldedSetIterable iter1 env x = pure x := by intro _ _; rfl) :
    FS X cm (.Assign [.Name y py] (.ListComp elt [⟨tg, iter, ifs, 0⟩, ⟨tg1, iter1, ifs1, 0⟩] scope pos) spos) (sAsg i (nLc2 (own.map (·.2)) own1 f h g f1 h1 g1 el)) :=
  (ps_setLc2 hc hN hy hyl hsw hi ok hv hg ht hi1 hg1 ht1 he hs hs1).imp fun D σ H hh => by
    obtain ⟨C, A, ρ, t, ρ', R, q, k⟩ := sAsg_of hh
    unfold nLc2 at q
    simp only [Option.bind_eq_some_iff] at q
    obtain ⟨⟨ds, ρ1⟩, h1, ρw, h2, ⟨all, ρ2⟩, h3, h4⟩ := q
    split at h4
    rotate_left
    · cases h4
    rename_i hbig
    cases h4
    exact tLc2_core hv hsub hsub1 (fun R' hR => ⟨C, A, ρ, ds, ρ1, R, h1, hR⟩) hbig h2 h3 k
end
end G

/-! La63: what a head by facts tells (for long tops). -/
namespace G
open PySem PySem.Spec PySem.Calls PyProof.Rows L2
section
variable {K : PySem.W.Frag} {mg : Str → Option Value} {x : Str} {st : Stmt} {ps : List Str} {f : Addr} {cm : Cm} {w : World}
theorem dn_of (c : ∃ fd, FunD K x x (defArgs st) (defBody st) (defScope st) [] [] f fd) (m : mg x = some (.ref f))
    (b : ∀ (kV doc pm : Value) (an : Option Addr) (cdv ct : Value) (us : List Value), us.length = ps.length → bindArgs (PySem.W.fnOf x x (defArgs st) (defBody st) (defScope st) .none kV doc pm an cdv ct) ⟨us, []⟩ = pure (ps.zip us)) :
    ∃ fd, Dn K mg x st ps f fd := by
  obtain ⟨fd, F⟩ := c
  obtain ⟨oc, od, dV, kV, doc, pm, an, cdv, ct, osl, e, lk, cc, d1, _⟩ := F.ex
  have e2 : dV = .none := by
    rcases d1 with ⟨h1, h2⟩ | ⟨h, _⟩
    · first | exact h1 | exact h2
    · exact absurd rfl h
  subst e2
  subst e
  exact ⟨_, ⟨⟨oc, od, kV, doc, pm, an, cdv, ct, osl, rfl, lk, cc⟩, F.kp⟩, m, b _ _ _ _ _ _⟩
theorem dn_code {fd : FuncData} (D : Dn K mg x st ps (He.fAd K (x, none)) fd) : fd.code = .ref (He.codeOf K (x, none)) := by
  obtain ⟨oc, od, kV, doc, pm, an, cdv, ct, osl, e, lk, cc⟩ := D.F.ex
  have e1 : fd.code = cdv := by rw [e]
  obtain ⟨c, e2⟩ := He.codeIn_ref cc
  have e3 : fd.code = .ref c := e1.trans e2
  rw [e3, He.codeOf_eq lk e3]
theorem tupAtB_ok {a : Addr} {vs : List V} (h : tupAtB K a vs = true) : KT K a vs := by
  unfold tupAtB at h
  cases q : K.lookup a with
  | none =>
    rw [q] at h
    cases h
  | some o =>
    obtain ⟨oc, od, dt, osl⟩ := o
    rw [q] at h
    cases oc with
    | type c =>
      cases dt with
      | seq its n =>
        obtain ⟨h1, h2⟩ := He.ba (show (decide (c = "tuple") && (decide (its.size ≤ sizeLine) && He.relAll vs its.toList)) = true from h)
        obtain ⟨h3, h4⟩ := He.ba h2
        exact ⟨_, its, n, q, congrArg Value.type (of_decide_eq_true h1), rfl, of_decide_eq_true h3, He.relAll_ok h4⟩
      | _ => cases h
    | _ => cases dt <;> cases h
def Tv.dv (num : Str → Nat) : Tv → Option D
  | .none => Option.none
  | .fn y => some (.fn (num y))
  | .two i y => some (.tup [.int i, .fn (num y)])
/-- the table x, its keys ks in order; what is told -/
theorem ktb_of {N : Nat} {num : Str → Nat} {y : Str} {tv : List (List Nat × Tv)} (hd : ∃ es n, KDict K w (He.ga K y) es n) (hN : cm N = He.ga K y) (hv : (tv.all fun q => q.2.ok K (He.ga K y) (S q.1)) = true) (hn : ∀ q ∈ tv, ∀ z, (q.2 = .fn z ∨ ∃ i, q.2 = .two i z) → cm (num z) = He.ga K z) :
    KTb K w cm N (tv.map fun q => (q.1, q.2.dv num)) := by
  refine ⟨by rw [hN]; exact hd, fun p hp => ?_⟩
  obtain ⟨q, hq, rfl⟩ := List.mem_map.mp hp
  have h := List.all_eq_true.mp hv q hq
  have hz := hn q hq
  rw [hN]
  obtain ⟨s, t⟩ := q
  cases t with
  | none => exact ⟨fun _ => He.eqO_ok h, fun e z => nomatch z⟩
  | fn z =>
    refine ⟨fun e => (nomatch e), fun e k => ?_⟩
    cases k
    exact ⟨_, .ref (He.ga K z), He.eqO_ok h, rfl, fun A H => by rw [← hz z (.inl rfl)]; exact .fn _⟩
  | two i z =>
    refine ⟨fun e => (nomatch e), fun e k => ?_⟩
    cases k
    have h2 : (match PySem.W.nsIn K (He.ga K y) (S s) with
      | some (some (.ref t)) => tupAtB K t [.int i, .ref (He.ga K z)]
      | _ => false) = true := h
    cases q : PySem.W.nsIn K (He.ga K y) (S s) with
    | none => rw [q] at h2; cases h2
    | some r =>
      cases r with
      | none => rw [q] at h2; cases h2
      | some u =>
        cases u with
        | ref t =>
          rw [q] at h2
          exact ⟨_, .ref t, rfl, rfl, fun A H => .tup (.inr (tupAtB_ok h2)) (.cons (.int i) (.cons (by rw [← hz z (.inr ⟨i, rfl⟩)]; exact .fn _) .nil))⟩
        | _ => rw [q] at h2; cases h2
end
end G

/-! La64: what a dict's keys draw (for zip over a dict). -/
namespace G
open PyProof.Rows PySem PySem.Calls PySem.Spec L2
section
variable {p : Program} {w : World} {B : Around} {E : Value → Shared → Prop} {t : Shared} {k m : Addr} {j ep : Nat} {es : Array DictEntry} {Q : Value → Shared → Prop}
theorem key_next (x : t.heap.IsKeyIter k m j es.size ep) (y : t.heap.DictRaw m es ep) (lt : j < es.size) (q : ∀ g, g.IsKeyIter k m (j + 1) es.size ep → Heap.SameBut k t.heap g → Q es[j].key { t with heap := g }) :
    wpAny (model p w) B (Builtin.SmallTypes.nextOf (.ref k)) Q E t := by
  obtain ⟨⟨u, x1, x2, x3⟩, ⟨v, y1, y2, y3⟩⟩ := And.intro (id x) (id y)
  have no : Builtin.Dict_items.ownsTuple "dict_keyiterator" = false := by decide
  have nn : ¬ ((Value.ref m == Value.none) = true) := Bool.false_ne_true
  have ge : ¬ ((j : Int) < 0) := by omega
  have x4 : (t.heap.update k (Obj.mapFields (·.setIfInBounds 1 (rawInt ((j : Int) + 1))))).IsKeyIter k m (j + 1) es.size ep := ⟨_, Heap.get?_update_self _ x1 (Obj.isFreed_of_fields (Obj.data_mapFields x3 _)), (Obj.cls_mapFields ..).trans x2, by rw [Obj.data_mapFields x3]; simp [rawInt]⟩
  unfold PySem.Builtin.SmallTypes.nextOf
  refine wpAny_bind (wpAny_callSpecial?_slot (name := Str.ofString "__next__") x.typeIs F.slot_dict_keyiterator_next (wpAny_call_entry F.slot_dict_keyiterator_next x.typeIs F.entry_dict_keyiterator_next ?_ (F.args_dict_keyiterator_next_1 _)))
  refine wpAny_bind (wpAny_pure (wpAny_bind (wpAny_bind ?_)))
  first | refine wpAny_bind (wpAny_typeNameOfWhole_keyiter x.typeIs (wpAny_pure (wpAny_bind (wpAny_fieldsOf x1 x3 ?_)))) | refine wpAny_bind (wpAny_typeNameOf_keyiter x.typeIs (wpAny_pure (wpAny_bind (wpAny_fieldsOf x1 x3 ?_))))
  simp only [no, Bool.false_eq_true, if_false]; show wpAny _ _ (if (Value.ref m == Value.none) = true then _ else _) _ _ t; rw [if_neg nn]
  refine wpAny_bind (wpAny_pure (wpAny_bind (wpAny_dictEntries y1 y3 ?_))); rw [if_neg (by simp)]; refine wpAny_bind (wpAny_pure (wpAny_bind (wpAny_dictEpoch y1 y3 ?_)))
  rw [if_neg (by simp)]; refine wpAny_pure ?_; simp only [ge, if_false, Int.toNat_natCast, Array.getElem?_eq_getElem lt]; refine wpAny_bind ?_
  first | refine wpAny_bind (wpAny_typeNameOfWhole_keyiter x.typeIs (wpAny_pure (wpAny_bind (wpAny_isOneOf_keyiter x.typeIs ?_)))) | refine wpAny_bind (wpAny_typeNameOf_keyiter x.typeIs (wpAny_pure (wpAny_bind (wpAny_isOneOf_keyiter x.typeIs ?_))))
  show wpAny _ _ (setField (.ref k) 1 (rawInt ((j : Int) + 1)) >>= _) _ _ t; refine wpAny_bind (wpAny_setField x1 x3 (by simp) (wpAny_bind (wpAny_holding (wpAny_bind ?_))))
  refine wpAny_isOneOf_keyiter (s := { t with heap := t.heap.update k (Obj.mapFields (·.setIfInBounds 1 (rawInt ((j : Int) + 1)))) }) x4.typeIs ?_; show wpAny _ _ (pure es[j].key) _ _ _
  exact wpAny_pure (wpAny_pure ⟨_, rfl, wpAny_pure (q _ x4 (Heap.SameBut.update ..))⟩)
theorem key_stop (hh : B.handled = none) (x : t.heap.IsKeyIter k m j es.size ep) (y : t.heap.DictRaw m es ep) (le : es.size ≤ j) (q : ∀ g e, Heap.ExtBut k t.heap g → (∃ o, g.get? e = some o ∧ o.cls = .type "StopIteration") → E (.ref e) { t with heap := g }) (R : Value → Shared → Prop) :
    wpAny (model p w) B (Builtin.SmallTypes.nextOf (.ref k)) R E t := by
  obtain ⟨⟨u, x1, x2, x3⟩, ⟨v, y1, y2, y3⟩⟩ := And.intro (id x) (id y)
  have no : Builtin.Dict_items.ownsTuple "dict_keyiterator" = false := by decide
  have nn : ¬ ((Value.ref m == Value.none) = true) := Bool.false_ne_true
  have ge : ¬ ((j : Int) < 0) := by omega
  unfold PySem.Builtin.SmallTypes.nextOf
  refine wpAny_bind (wpAny_callSpecial?_slot (name := Str.ofString "__next__") x.typeIs F.slot_dict_keyiterator_next (wpAny_call_entry F.slot_dict_keyiterator_next x.typeIs F.entry_dict_keyiterator_next ?_ (F.args_dict_keyiterator_next_1 _)))
  refine wpAny_bind (wpAny_pure (wpAny_bind (wpAny_bind ?_)))
  first | refine wpAny_bind (wpAny_typeNameOfWhole_keyiter x.typeIs (wpAny_pure (wpAny_bind (wpAny_fieldsOf x1 x3 ?_)))) | refine wpAny_bind (wpAny_typeNameOf_keyiter x.typeIs (wpAny_pure (wpAny_bind (wpAny_fieldsOf x1 x3 ?_))))
  simp only [no, Bool.false_eq_true, if_false]; show wpAny _ _ (if (Value.ref m == Value.none) = true then _ else _) _ _ t; rw [if_neg nn]
  refine wpAny_bind (wpAny_pure (wpAny_bind (wpAny_dictEntries y1 y3 ?_))); rw [if_neg (by simp)]; refine wpAny_bind (wpAny_pure (wpAny_bind (wpAny_dictEpoch y1 y3 ?_)))
  rw [if_neg (by simp)]; refine wpAny_pure ?_; simp only [ge, if_false, Int.toNat_natCast, Array.getElem?_eq_none le]; refine wpAny_bind ?_
  first | refine wpAny_bind (wpAny_typeNameOfWhole_keyiter x.typeIs (wpAny_pure ?_)) | refine wpAny_bind (wpAny_typeNameOf_keyiter x.typeIs (wpAny_pure ?_))
  show wpAny _ _ (setField (.ref k) 0 .none >>= _) _ _ t; refine wpAny_bind (wpAny_setField x1 x3 (by simp) ?_); show wpAny _ _ (newExc (.type "StopIteration") [] >>= _) _ _ _
  refine wpAny_bind ?_; simp only [newExc, newTuple]; refine wpAny_bind (wpAny_newObj_type (wpAny_bind (m := firstArgMember _ _) (wpAny_of_eq (a := Value.none) (by first | rfl | (simp only [firstArgMember]; rfl)) (wpAny_newObj_type ?_ (by size_fits)))) (by size_fits))
  simp only [raiseNew]; refine wpAny_bind (wpAny_handled ?_); first | rw [show B.in1.handled = none from hh] | rw [hh]
  exact wpAny_bind (wpAny_pure (wpAny_throw (q _ _ (((Heap.SameBut.update ..).extBut.push _).push _) ⟨_, Heap.get?_push_size _ rfl, rfl⟩)))
end
theorem draws_keys {p : Program} {w : World} {B : Around} (hh : B.handled = none) (k m : Addr) (ne : m ≠ k) (es : Array DictEntry) (ep : Nat) :
    Draws p w B k [k, m] es.size (fun i v => ∃ hi : i < es.size, v = es[i].key) (fun i h => h.IsKeyIter k m i es.size ep ∧ h.DictRaw m es ep) :=
  ⟨fun _ _ z => z.1.imp fun _ e => e.1, fun _ _ _ z kp => ⟨z.1.at fun o e => kp k (by simp) o e, z.2.at fun o e => kp m (by simp) o e⟩,
    fun i s Q E hi z kq => key_next z.1 z.2 hi fun g a b => kq _ g s.toks ⟨hi, rfl⟩ ⟨a, z.2.at fun o e => b.extBut m o ne e⟩ b,
    fun s Q E z kq => key_stop hh z.1 z.2 (Nat.le_refl _) kq Q⟩
theorem begins_keys (m : Addr) (lo : (m == sysModules) = false) (es : Array DictEntry) (ep : Nat) : Begins (.ref m) { cls := .type "dict_keyiterator", data := .fields #[.ref m, .int 0 0, .int es.size 0, .int ep 0] } fun h => h.DictRaw m es ep :=
  ⟨fun _ _ _ _ _ _ z q => wpAny_pyIter_dict_raw lo z q, fun _ _ z kp => z.at fun o e => kp m o e, rfl⟩
end G

/-! La65: list(range(n)). -/
namespace G
open PyProof.Rows PySem PySem.Spec L2
def nListR (f : Em) : Rho → Option (T × Rho) := fun ρ => (f ρ).bind fun p => match rd p.2 p.1 with
  | some (.int j) => if 0 ≤ j ∧ j < 1000 then some (.ls (rgD 0 j.toNat), p.2) else none
  | _ => none
section
variable {X : Cx} {cm : Cm} {a : Expr} {p p2 pos q2 : Pos}
theorem ints_rp {K : PySem.W.Frag} {A : AS} {H : Hp} : ∀ ns : List Int, RpL K cm A H (ns.map V.int) (ns.map D.int)
  | [] => .nil
  | n :: ns => .cons (.int n) (ints_rp ns)
theorem rgV_rp {K : PySem.W.Frag} {A : AS} {H : Hp} (j : Int) : RpL K cm A H (rgV 0 j) (rgD 0 j.toNat) := by
  have e := ints_rp (K := K) (cm := cm) (A := A) (H := H) ((List.range j.toNat).map fun i : Nat => (0 : Int) + (i : Nat))
  rw [List.map_map, List.map_map] at e
  unfold rgV rgD
  rw [Int.sub_zero]
  exact e
theorem fn_listR {f : Em} (hc : X.calm = true) (hg : Gl X "list") (hm : X.mg "list" = none) (hg2 : Gl X "range") (hm2 : X.mg "range" = none) (ha : FE X cm a f) (na : starEach [a] X.env = (false, eval a X.env) :: starEach [] X.env := by rfl)
    (nb : starEach [.Call (.Name "range" p2) [a] [] q2] X.env = (false, eval (.Call (.Name "range" p2) [a] [] q2) X.env) :: starEach [] X.env := by rfl) :
    FN X cm (.Call (.Name "list" p) [.Call (.Name "range" p2) [a] [] q2] [] pos) (nListR f) := (pe_listRg hc hg hm (prg_1 hg2 hm2 ha na) nb).imp fun σ H Q ⟨C, A, ρ, t, ρ', R, q, k⟩ => by
  unfold nListR at q
  simp only [Option.bind_eq_some_iff] at q
  obtain ⟨⟨r, ρ1⟩, h1, h3⟩ := q
  dsimp only at h3
  split at h3
  · rename_i j h2
    split at h3
    · rename_i hz
      cases h3
      refine ⟨C, A, ρ, r, _, R, h1, fun v H1 A1 l1 R1 w1 => ?_⟩
      cases (rd_ok R1 w1 h2).int
      refine ⟨j, rfl, .of_le (by omega) (by omega) (by omega) (by omega), fun p hp => ?_⟩
      obtain ⟨l2, R2, hF⟩ := own1 (o := .lst (rgV 0 j)) R1 hp
      exact k _ _ _ [p] (l1.trans l2) R2 ⟨p, _, rfl, rfl, upd_same, rgV_rp j⟩ (by simp) hF
    · cases h3
  · cases h3
@[simp] theorem nListR_ap (f : Em) (ρ : Rho) : nListR f ρ = ((f ρ).bind fun p => match rd p.2 p.1 with
  | some (.int j) => if 0 ≤ j ∧ j < 1000 then some (.ls (rgD 0 j.toNat), p.2) else none
  | _ => none) := rfl
end
end G

/-! La66: zip over two iterators of any kind while its tuples are kept; list(zip(..)) at the machine. -/
namespace G
open PyProof.Rows PySem PySem.Calls PySem.Spec L2
theorem nolen_zip : typeLookup (.type "zip") "__len__" = pure none := am_miss_of_fast (by decide +kernel)
theorem nohint_zip : typeLookup (.type "zip") "__length_hint__" = pure none := am_miss_of_fast (by decide +kernel)
section
variable {prog : Program} {w : World} {A : Around} {E : Value → Shared → Prop} {s : Shared} {z TI TO T i1 i2 : Addr} {fp1 fp2 : List Addr} {n1 n2 i : Nat} {P1 P2 : Nat → Value → Prop} {St1 St2 : Nat → Heap → Prop}
theorem zipH_item {f : Bool} {oT : Obj} {Q : Value → Shared → Prop} (S : ZipSep2 z TI TO i1 i2 fp1 fp2) (D1 : Draws prog w A i1 fp1 n1 P1 St1) (D2 : Draws prog w A i2 fp2 n2 P2 St2)
    (hz : IsZipHeld s.heap z TI TO T f) (hT : s.heap.get? T = some oT) (hTI : IsTupOf2 s.heap TI (.ref i1) (.ref i2)) (st1 : St1 i s.heap) (st2 : St2 i s.heap) (hlt1 : i < n1) (hlt2 : i < n2)
    (hQ : ∀ x1 x2 h' tk, P1 i x1 → P2 i x2 → IsZipHeld h' z TI TO T true → St1 (i + 1) h' → St2 (i + 1) h' → IsTupOf2 h' s.heap.objs.size x1 x2 → h'.objs.size = s.heap.objs.size + 1 →
      (∀ c o, c ≠ z → c ≠ i1 → c ≠ i2 → s.heap.get? c = some o → h'.get? c = some o) → Q (.ref s.heap.objs.size) { s with heap := h', toks := tk }) :
    wpAny (model prog w) A (Builtin.«zip.__next__» ⟨[.ref z], []⟩) (fun fin s' => ∃ v, fin = .done (.ret v) ∧ Q v s') E s := by
  obtain ⟨hp, g, d, tk0, os⟩ := s
  show wpAny _ _ (field (.ref z) 2 >>= _) _ _ _
  refine wpAny_bind (wpAny_field hz rfl (x := .bool false) rfl ?_)
  show wpAny _ _ (field (.ref z) 3 >>= _) _ _ _
  refine wpAny_bind (wpAny_field hz rfl (x := .ref TI) rfl ?_)
  refine wpAny_bind (wpAny_seqItems hTI rfl ?_)
  show wpAny _ _ (Builtin.SmallTypes.ownedTupleIsFree (.ref z) >>= _) _ _ _
  refine wpAny_bind (wpAny_tupleHeld_zip hz hT fun h1 hz1 hs1 => ?_)
  replace hs1 : Heap.SameBut z hp h1 := hs1
  simp only [Bool.false_eq_true, if_false]
  refine wpAny_bind ?_
  rw [← Array.forIn_toList]
  simp only [List.forIn_cons, List.forIn_nil]
  refine wpAny_bind (wpAny_bind (wpAny_holding ?_))
  show wpAny _ _ (Builtin.SmallTypes.nextOf (.ref i1) >>= _) _ _ ⟨h1, g, d, tk0, os⟩
  refine wpAny_bind (D1.item i _ _ _ hlt1 (D1.over st1 hs1 S.zf1) fun x1 p1 tk1 hx1 sn1 hp1 => wpAny_pure ?_)
  replace hp1 : Heap.SameBut i1 h1 p1 := hp1
  refine wpAny_pure ?_
  refine wpAny_bind (wpAny_bind (wpAny_holding ?_))
  show wpAny _ _ (Builtin.SmallTypes.nextOf (.ref i2) >>= _) _ _ ⟨p1, g, d, tk1, os⟩
  refine wpAny_bind (D2.item i _ _ _ hlt2 (D2.over (D2.over st2 hs1 S.zf2) hp1 S.sep1_2) fun x2 p2 tk2 hx2 sn2 hp2 => wpAny_pure ?_)
  replace hp2 : Heap.SameBut i2 p1 p2 := hp2
  refine wpAny_pure (wpAny_pure ?_)
  show wpAny _ _ (newTuple [x1, x2] >>= _) _ _ _
  refine wpAny_bind (wpAny_newTuple ?_)
  have hsz : p2.objs.size = hp.objs.size := by rw [hp2.1, hp1.1, hs1.1]
  have hz3 : IsZipHeld p2 z TI TO T true := hp2.extBut _ _ S.zi2 (hp1.extBut _ _ S.zi1 hz1)
  have hk : ∀ c o, c ≠ z → c ≠ i1 → c ≠ i2 → hp.get? c = some o → p2.get? c = some o := fun c o c1 c2 c3 e => hp2.extBut _ _ c3 (hp1.extBut _ _ c2 (hs1.extBut _ _ c1 e))
  have hj1 : St1 (i + 1) p2 := D1.over sn1 hp2 S.sep2_1
  refine wpAny_pure ⟨_, rfl, ?_⟩
  show Q (.ref p2.objs.size) _
  have hp' : IsTupOf2 (p2.push { cls := .type "tuple", data := .seq #[x1, x2] }) p2.objs.size x1 x2 := Heap.get?_push_size _ rfl
  have hz4 : (p2.push { cls := .type "tuple", data := .seq #[x1, x2] }).objs.size = p2.objs.size + 1 := Heap.size_push ..
  rw [hsz] at hp' hz4 ⊢
  exact hQ x1 x2 _ tk2 hx1 hx2 (Heap.get?_push_of_some _ hz3) (D1.frame _ _ _ hj1 fun b _ o e => Heap.get?_push_of_some _ e) (D2.frame _ _ _ sn2 fun b _ o e => Heap.get?_push_of_some _ e) hp' hz4 fun c o c1 c2 c3 e => Heap.get?_push_of_some _ (hk c o c1 c2 c3 e)
theorem zipH_end {f : Bool} {oT : Obj} {Q : Fin → Shared → Prop} (S : ZipSep2 z TI TO i1 i2 fp1 fp2) (D1 : Draws prog w A i1 fp1 n1 P1 St1) (D2 : Draws prog w A i2 fp2 n2 P2 St2)
    (hz : IsZipHeld s.heap z TI TO T f) (hT : s.heap.get? T = some oT) (hTI : IsTupOf2 s.heap TI (.ref i1) (.ref i2)) (st1 : St1 i s.heap) (st2 : St2 i s.heap) (hle1 : i ≤ n1) (hle2 : i ≤ n2) (hend : i = n1 ∨ i = n2)
    (hE : ∀ h' tk e, (∀ c o, c ≠ z → c ≠ i1 → c ≠ i2 → s.heap.get? c = some o → h'.get? c = some o) → (∃ o, h'.get? e = some o ∧ o.cls = .type "StopIteration") → E (.ref e) { s with heap := h', toks := tk }) :
    wpAny (model prog w) A (Builtin.«zip.__next__» ⟨[.ref z], []⟩) Q E s := by
  obtain ⟨hp, g, d, tk0, os⟩ := s
  show wpAny _ _ (field (.ref z) 2 >>= _) _ _ _
  refine wpAny_bind (wpAny_field hz rfl (x := .bool false) rfl ?_)
  show wpAny _ _ (field (.ref z) 3 >>= _) _ _ _
  refine wpAny_bind (wpAny_field hz rfl (x := .ref TI) rfl ?_)
  refine wpAny_bind (wpAny_seqItems hTI rfl ?_)
  show wpAny _ _ (Builtin.SmallTypes.ownedTupleIsFree (.ref z) >>= _) _ _ _
  refine wpAny_bind (wpAny_tupleHeld_zip hz hT fun h1 hz1 hs1 => ?_)
  replace hs1 : Heap.SameBut z hp h1 := hs1
  simp only [Bool.false_eq_true, if_false]
  refine wpAny_bind ?_
  rw [← Array.forIn_toList]
  simp only [List.forIn_cons, List.forIn_nil]
  refine wpAny_bind (wpAny_bind (wpAny_holding ?_))
  show wpAny _ _ (Builtin.SmallTypes.nextOf (.ref i1) >>= _) _ _ ⟨h1, g, d, tk0, os⟩
  by_cases hlt1 : i < n1
  · have hi2 : i = n2 := by omega
    refine wpAny_bind (D1.item i _ _ _ hlt1 (D1.over st1 hs1 S.zf1) fun x1 p1 tk1 hx1 sn1 hp1 => wpAny_pure ?_)
    replace hp1 : Heap.SameBut i1 h1 p1 := hp1
    refine wpAny_pure ?_
    refine wpAny_bind (wpAny_bind (wpAny_holding ?_))
    show wpAny _ _ (Builtin.SmallTypes.nextOf (.ref i2) >>= _) _ _ ⟨p1, g, d, tk1, os⟩
    refine wpAny_bind (D2.done ⟨p1, g, d, tk1, os⟩ _ _ (by rw [← hi2]; exact D2.over (D2.over st2 hs1 S.zf2) hp1 S.sep1_2) fun q e hq he => ?_)
    exact hE q tk1 e (fun c o c1 c2 c3 x => hq _ _ c3 (hp1.extBut _ _ c2 (hs1.extBut _ _ c1 x))) he
  · have hi1 : i = n1 := by omega
    refine wpAny_bind (D1.done ⟨h1, g, d, tk0, os⟩ _ _ (by rw [← hi1]; exact D1.over st1 hs1 S.zf1) fun q e hq he => ?_)
    exact hE q tk0 e (fun c o c1 c2 c3 x => hq _ _ c2 (hs1.extBut _ _ c1 x)) he
theorem zipH_next {f : Bool} {oT : Obj} {Q : Option Value → Shared → Prop} (S : ZipSep2 z TI TO i1 i2 fp1 fp2) (D1 : Draws prog w A.in1 i1 fp1 n1 P1 St1) (D2 : Draws prog w A.in1 i2 fp2 n2 P2 St2)
    (hz : IsZipHeld s.heap z TI TO T f) (hT : s.heap.get? T = some oT) (hTI : IsTupOf2 s.heap TI (.ref i1) (.ref i2)) (st1 : St1 i s.heap) (st2 : St2 i s.heap) (hlt1 : i < n1) (hlt2 : i < n2)
    (hQ : ∀ x1 x2 h' tk, P1 i x1 → P2 i x2 → IsZipHeld h' z TI TO T true → St1 (i + 1) h' → St2 (i + 1) h' → IsTupOf2 h' s.heap.objs.size x1 x2 → h'.objs.size = s.heap.objs.size + 1 →
      (∀ c o, c ≠ z → c ≠ i1 → c ≠ i2 → s.heap.get? c = some o → h'.get? c = some o) → Q (some (.ref s.heap.objs.size)) { s with heap := h', toks := tk }) :
    wpAny (model prog w) A (pyNext (.ref z)) Q E s := by
  have hTy : s.TypeIs (.ref z) "zip" := ⟨_, hz, rfl⟩
  unfold pyNext
  exact wpAny_bind (wpAny_attempt (wpAny_callSpecial?_slot (name := Str.ofString "__next__") hTy F.slot_zip_next
    (wpAny_call_entry F.slot_zip_next hTy F.entry_zip_next
      (zipH_item S D1 D2 hz hT hTI st1 st2 hlt1 hlt2 fun x1 x2 h' tk a0 a1 a3 a4 a5 a6 a7 a8 => wpAny_pure (hQ x1 x2 h' tk a0 a1 a3 a4 a5 a6 a7 a8)) (F.args_zip_next_1 _))))
theorem zipH_stop {f : Bool} {oT : Obj} {Q : Option Value → Shared → Prop} (S : ZipSep2 z TI TO i1 i2 fp1 fp2) (D1 : Draws prog w A.in1 i1 fp1 n1 P1 St1) (D2 : Draws prog w A.in1 i2 fp2 n2 P2 St2)
    (hz : IsZipHeld s.heap z TI TO T f) (hT : s.heap.get? T = some oT) (hTI : IsTupOf2 s.heap TI (.ref i1) (.ref i2)) (st1 : St1 i s.heap) (st2 : St2 i s.heap) (hle1 : i ≤ n1) (hle2 : i ≤ n2) (hend : i = n1 ∨ i = n2)
    (hQ : ∀ h' tk, (∀ c o, c ≠ z → c ≠ i1 → c ≠ i2 → s.heap.get? c = some o → h'.get? c = some o) → Q none { s with heap := h', toks := tk }) :
    wpAny (model prog w) A (pyNext (.ref z)) Q E s := by
  have hTy : s.TypeIs (.ref z) "zip" := ⟨_, hz, rfl⟩
  unfold pyNext
  refine wpAny_bind (wpAny_attempt (wpAny_callSpecial?_slot (name := Str.ofString "__next__") hTy F.slot_zip_next
    (wpAny_call_entry F.slot_zip_next hTy F.entry_zip_next (zipH_end S D1 D2 hz hT hTI st1 st2 hle1 hle2 hend fun h' tk e hk he => ?_) (F.args_zip_next_1 _))))
  obtain ⟨o, ho, hc⟩ := he
  refine wpAny_bind (wpAny_isInstance (T := "StopIteration") (b := true) ⟨o, ho, hc⟩ isSubtype_stop ?_)
  exact wpAny_pure (hQ _ _ hk)
end

/-- a walk that gives out new pairs, which are kept; S: the list that is filled -/
structure PIt (prog : Program) (w : World) (A : Around) (z S : Addr) (ch : List Addr) (n : Nat) (P : Nat → Value → Value → Prop) (St : Nat → Heap → Prop) : Prop where
  keep : ∀ i h h', St i h → (∀ b o, b ≠ S → h.get? b = some o → h'.get? b = some o) → St i h'
  item : ∀ i (s : Shared) (Q : Option Value → Shared → Prop) (E : Value → Shared → Prop), i < n → St i s.heap → S < s.heap.objs.size →
    (∀ x y h' tk, P i x y → St (i + 1) h' → h'.get? s.heap.objs.size = some { cls := .type "tuple", data := .seq #[x, y] } → h'.objs.size = s.heap.objs.size + 1 → (∀ b o, b ∉ ch → s.heap.get? b = some o → h'.get? b = some o) → Q (some (.ref s.heap.objs.size)) { s with heap := h', toks := tk }) →
    wpAny (model prog w) A (pyNext (.ref z)) Q E s
  done : ∀ (s : Shared) (Q : Option Value → Shared → Prop) (E : Value → Shared → Prop), St n s.heap → (∀ h' tk, (∀ b o, b ∉ ch → s.heap.get? b = some o → h'.get? b = some o) → Q none { s with heap := h', toks := tk }) → wpAny (model prog w) A (pyNext (.ref z)) Q E s

structure PG (P : Nat → Value → Value → Prop) (lo : Addr) (h : Heap) (as : List Addr) : Prop where
  rise : as.Pairwise (· < ·)
  above : ∀ a ∈ as, lo ≤ a
  pairs : ∀ (j : Nat) (a : Addr), as[j]? = some a → ∃ x y, P j x y ∧ h.get? a = some { cls := .type "tuple", data := .seq #[x, y] }
theorem PG.there {P : Nat → Value → Value → Prop} {lo : Addr} {h : Heap} {as : List Addr} (g : PG P lo h as) {a : Addr} (ha : a ∈ as) : a < h.objs.size := by
  obtain ⟨j, hj⟩ := List.mem_iff_getElem?.mp ha
  obtain ⟨_, _, _, e⟩ := g.pairs j a hj
  exact Heap.lt_size e
section
variable {prog : Program} {w : World} {A : Around} {E : Value → Shared → Prop} {s : Shared} {R : Result → Shared → Prop} {z S B : Addr} {ch : List Addr} {n : Nat} {P : Nat → Value → Value → Prop} {St : Nat → Heap → Prop}
theorem pit_loop (W : PIt prog w A.in1 z S ch n P St) (hSB : S < B) (hSc : S ∉ ch) (hcB : ∀ b ∈ ch, b < B) (hn : n ≤ sizeLine) (res : Value) {h1 : Heap}
    (hR : ∀ h' tk acc c as, (∀ b o, b ≠ S → b ∉ ch → h1.get? b = some o → h'.get? b = some o) → h'.get? S = some { cls := .type "list", dict := none, data := .seq acc c, slots := #[] } → as.length = n → PG P B h' as →
      acc.toList = as.map Value.ref → R (.ok (.ret res)) { s with heap := h', toks := tk }) :
    ∀ (k i : Nat) (h : Heap) (tk c : Nat) (acc : Array Value) (as : List Addr), n - i = k → i ≤ n → St i h → (∀ b o, b ≠ S → b ∉ ch → h1.get? b = some o → h.get? b = some o) →
      h.get? S = some { cls := .type "list", dict := none, data := .seq acc c, slots := #[] } → acc.toList = as.map Value.ref → as.length = i → PG P B h as → B ≤ h.objs.size →
      codeAny (model prog w) A (.builtin "list.extend.loop" ⟨[.ref S, .ref z, res], []⟩) R { s with heap := h, toks := tk } := by
  intro k
  induction k with
  | zero =>
    intro i h tk c acc as hk hi hst hkeep hS hacc hal hG hB
    have hin : i = n := by omega
    subst hin
    refine codeAny_builtin PySem.F.entry_extend_loop ?_
    rw [Around.under_plainId PySem.F.plain_extend_loop _]
    show wpAny _ A.in1 (pyNext (.ref z) >>= _) _ _ _
    refine wpAny_bind (W.done { s with heap := h, toks := tk } _ _ hst fun h' tk' he => ?_)
    refine wpAny_pure (hR h' tk' acc c as (fun b o h1 h2 e => he b o h2 (hkeep b o h1 h2 e)) (he S _ hSc hS) hal ⟨hG.rise, hG.above, fun j a hj => ?_⟩ hacc)
    obtain ⟨x, y, e1, e3⟩ := hG.pairs j a hj
    exact ⟨x, y, e1, he a _ (fun m => absurd (hcB a m) (Nat.not_lt.mpr (hG.above a (List.mem_of_getElem? hj)))) e3⟩
  | succ k ih =>
    intro i h tk c acc as hk hi hst hkeep hS hacc hal hG hB
    have hlt : i < n := by omega
    have hsz : acc.size = i := by rw [← Array.length_toList, hacc, List.length_map, hal]
    have hSl : S < h.objs.size := Heap.lt_size hS
    refine codeAny_builtin PySem.F.entry_extend_loop ?_
    rw [Around.under_plainId PySem.F.plain_extend_loop _]
    show wpAny _ A.in1 (pyNext (.ref z) >>= _) _ _ _
    refine wpAny_bind (W.item i { s with heap := h, toks := tk } _ _ hlt hst hSl fun x y h' tk' hp hst' ht hz hkp => ?_)
    dsimp only at ht hz hkp ⊢
    have hS' := hkp S _ hSc hS
    have up : ∀ b o, b ≠ S → h'.get? b = some o → (h'.update S (Obj.mapSeq (·.push (Value.ref h.objs.size)))).get? b = some o := fun b o hb e => (Heap.get?_update_other _ _ (Ne.symm hb)).trans e
    show wpAny _ A.in1 (updateSeq S (·.push (Value.ref h.objs.size)) >>= _) _ _ _
    refine wpAny_bind ?_
    refine wpAny_updateSeq hS' rfl (wpAny_pure ⟨plainId_quiet PySem.F.plain_extend_loop _, ih (i + 1) _ tk' _ (acc.push (Value.ref h.objs.size)) (as ++ [h.objs.size]) (by omega) hlt (W.keep _ _ _ hst' up)
      (fun b o h1 h2 e => up b o h1 (hkp b o h2 (hkeep b o h1 h2 e))) (Heap.get?_update_self _ hS' rfl) (by rw [Array.toList_push, hacc, List.map_append]; rfl) (by rw [List.length_append, hal]; rfl) ⟨?_, ?_, ?_⟩ ?_⟩) (by rw [hsz]; omega) (by show (acc.push (Value.ref h.objs.size)).size ≤ sizeLine + 1; rw [Array.size_push, hsz]; omega)
    · refine List.pairwise_append.mpr ⟨hG.rise, List.pairwise_singleton _ _, fun a ha b hb => ?_⟩
      rw [List.mem_singleton.mp hb]
      exact hG.there ha
    · intro a ha
      rcases List.mem_append.mp ha with ha | ha
      · exact hG.above a ha
      · rw [List.mem_singleton.mp ha]; exact hB
    · intro j b hj
      rcases Nat.lt_trichotomy j as.length with h1 | h1 | h1
      · rw [List.getElem?_append_left h1] at hj
        obtain ⟨x', y', e1, e3⟩ := hG.pairs j b hj
        have hb := hG.above b (List.mem_of_getElem? hj)
        exact ⟨x', y', e1, up b _ (Nat.ne_of_gt (Nat.lt_of_lt_of_le hSB hb)) (hkp b _ (fun m => absurd (hcB b m) (Nat.not_lt.mpr hb)) e3)⟩
      · subst h1
        have hb : h.objs.size = b := by simpa using hj
        subst hb
        exact ⟨x, y, by rw [hal]; exact hp, up _ _ (Nat.ne_of_gt hSl) ht⟩
      · have hnone : (as ++ [h.objs.size])[j]? = none := List.getElem?_eq_none (by rw [List.length_append, List.length_singleton]; omega)
        rw [hnone] at hj; cases hj
    · have e : (h'.update S (Obj.mapSeq (·.push (Value.ref h.objs.size)))).get? h.objs.size = _ := up _ _ (Nat.ne_of_gt hSl) ht
      exact Nat.le_trans hB (Nat.le_of_lt (Heap.lt_size e))
theorem hint_zip (hT : s.TypeIs (.ref z) "zip") {Q : Bool → Shared → Prop} (h : Q true s) : wpAny (model prog w) A (Builtin.List.listLengthHint (.ref z)) Q E s := by
  unfold Builtin.List.listLengthHint
  refine wpAny_bind (wpAny_specialOf hT nolen_zip ?_)
  show wpAny _ A (specialOf (Value.ref z) (Str.ofString "__length_hint__") >>= _) _ _ _
  refine wpAny_bind (wpAny_specialOf hT nohint_zip ?_)
  exact wpAny_pure h
/-- list(z) of a zip at z -/
theorem call_list_zip {Q : Value → Shared → Prop} (W : PIt prog w A.in1.in1 z s.heap.objs.size ch n P St) (hst : St 0 s.heap) (hn : n ≤ sizeLine) (hch : ∀ b ∈ ch, b < s.heap.objs.size)
    (hZ : ∀ h, (∀ b o, s.heap.get? b = some o → h.get? b = some o) → ∃ TI TO f0, IsZip h z TI TO f0)
    (hQ : ∀ h' tk acc c as, (∀ b o, b ∉ ch → s.heap.get? b = some o → h'.get? b = some o) → h'.get? s.heap.objs.size = some { cls := .type "list", dict := none, data := .seq acc c, slots := #[] } → as.length = n → PG P (s.heap.objs.size + 1) h' as →
      acc.toList = as.map Value.ref → Q (.ref s.heap.objs.size) { s with heap := h', toks := tk }) :
    wpAny (model prog w) A (call (.type "list") [.ref z]) Q E s := by
  refine callType_codes (Q₁ := fun obj s₁ => obj = .ref s.heap.objs.size ∧ s₁ = { s with heap := s.heap.push { cls := .type "list", data := .seq #[] } }) PySem.F.called_list (PySem.F.typeCall_list_1 _) PySem.F.entry_list_init
    (code_list_new _ ⟨rfl, rfl⟩) fun obj s₁ h₁ => ?_
  obtain ⟨rfl, rfl⟩ := h₁
  have hS : (s.heap.push { cls := .type "list", data := .seq #[] }).get? s.heap.objs.size = some { cls := .type "list", data := .seq #[] } := Heap.get?_push_size _ rfl
  have hSc : s.heap.objs.size ∉ ch := fun m => Nat.lt_irrefl _ (hch _ m)
  have k1 : ∀ b o, s.heap.get? b = some o → (s.heap.push { cls := .type "list", data := .seq #[] }).get? b = some o := fun b o e => Heap.get?_push_of_some _ e
  have up : ∀ (h : Heap) (f : Obj → Obj), (∀ b o, s.heap.get? b = some o → h.get? b = some o) → ∀ b o, s.heap.get? b = some o → (h.update s.heap.objs.size f).get? b = some o := fun h f q b o e =>
    (Heap.get?_update_other _ _ (Ne.symm (Nat.ne_of_lt (Heap.lt_size e)))).trans (q b o e)
  refine ⟨⟨_, hS, rfl⟩, PySem.F.args_list_init_2 _ _, ?_⟩
  show wpAny _ _ (do let old ← Builtin.List.listItems (.ref s.heap.objs.size); Builtin.List.listUpdate (.ref s.heap.objs.size) (fun _ => #[]); letGo old.toList.reverse; Builtin.List.listExtendWith (.ref s.heap.objs.size) (.ref z) .none) _ _ _
  refine wpAny_bind ?_
  unfold Builtin.List.listItems
  refine wpAny_bind (wpAny_seqItems hS rfl (wpAny_pure ?_))
  show wpAny _ _ (updateSeq s.heap.objs.size (fun _ => #[]) >>= fun _ => letGo (#[] : Array Value).toList.reverse >>= fun _ => Builtin.List.listExtendWith (.ref s.heap.objs.size) (.ref z) .none) _ _ _
  refine wpAny_bind (wpAny_updateSeq hS rfl ?_)
  have hS2 := Heap.get?_update_self (Obj.mapSeq (fun _ => (#[] : Array Value))) hS rfl
  have k2 := up _ (Obj.mapSeq (fun _ => (#[] : Array Value))) k1
  refine wpAny_bind (wpAny_letGo ?_)
  obtain ⟨TI, TO, f0, z2⟩ := hZ _ k2
  have hSz : s.heap.objs.size ≠ z := fun e => by
    rw [← e] at z2
    have h : Value.type "list" = Value.type "zip" := congrArg Obj.cls (Option.some.inj (hS2.symm.trans z2))
    simp at h
  unfold Builtin.List.listExtendWith
  refine wpAny_bind (wpAny_typeOf (T := "zip") ⟨_, z2, rfl⟩ ?_)
  have h1 : Builtin.List.listSameRef (.ref s.heap.objs.size) (.ref z) = false := by simp [Builtin.List.listSameRef, hSz]
  have h2 : (Value.type "zip" == Value.type "list") = false := by decide
  have h3 : (Value.type "zip" == Value.type "tuple") = false := by decide
  simp only [h1, h2, h3, Bool.or_false, Bool.false_eq_true, if_false]
  refine wpAny_bind (wpAny_pyIter_zip z2 ?_)
  refine wpAny_bind (wpAny_holding (hint_zip ⟨_, z2, rfl⟩ ?_))
  show wpAny _ _ (rule "list.extend.makes-room" >>= fun _ => Builtin.List.listTouch (.ref s.heap.objs.size) >>= fun _ =>
    again (.builtin "list.extend.loop" ⟨[.ref s.heap.objs.size, .ref z, .none], []⟩)) _ _ _
  refine wpAny_bind (wpAny_rule ?_)
  refine wpAny_bind ?_
  show wpAny _ _ (updateSeq s.heap.objs.size (·.push .none) >>= fun _ => updateSeq s.heap.objs.size (·.pop)) _ _ _
  refine wpAny_bind (wpAny_updateSeq hS2 rfl ?_)
  have hS3 := Heap.get?_update_self (Obj.mapSeq (·.push Value.none)) hS2 rfl
  refine wpAny_updateSeq (hz := by seq_fits) hS3 rfl ?_
  have hS4 := Heap.get?_update_self (Obj.mapSeq (·.pop)) hS3 rfl
  have k4 := up _ (Obj.mapSeq (·.pop)) (up _ (Obj.mapSeq (·.push Value.none)) k2)
  refine wpAny_pure ⟨plainId_quiet PySem.F.plain_extend_loop _, ?_⟩
  refine pit_loop (A := A.in1) (B := s.heap.objs.size + 1) (h1 := s.heap) W (Nat.lt_succ_self _) hSc (fun b m => Nat.lt_succ_of_lt (hch b m)) hn .none (fun h' tk acc c as hk hS' hl hG hacc => ⟨rfl, hQ h' tk acc c as (fun b o hb e => hk b o (Nat.ne_of_lt (Heap.lt_size e)) hb e) hS' hl hG hacc⟩)
    n 0 _ _ _ #[] [] (Nat.sub_zero _) (Nat.zero_le _) (W.keep _ _ _ hst fun b o _ e => k4 b o e) (fun b o _ _ e => k4 b o e) hS4 rfl rfl ⟨List.Pairwise.nil, (fun _ ha => nomatch ha), (fun j a hj => by simp at hj)⟩ (Heap.lt_size hS4)
end
end G

/-! La67: list(zip(dict, tuple)). -/
namespace G
open PyProof.Rows PySem PySem.Calls PySem.Spec L2
section
variable {prog : Program} {w : World} {A : Around} {z TI TO i1 i2 S : Addr} {fp1 fp2 : List Addr} {n1 n2 : Nat} {P1 P2 : Nat → Value → Prop} {St1 St2 : Nat → Heap → Prop}
def ZSt (z TI TO i1 i2 S : Addr) (St1 St2 : Nat → Heap → Prop) (i : Nat) (h : Heap) : Prop :=
  IsTupOf2 h TI (.ref i1) (.ref i2) ∧ St1 i h ∧ St2 i h ∧ ((IsZip h z TI TO .none ∧ ∃ a b, IsTupOf2 h TO a b) ∨ ∃ T f oT, IsZipHeld h z TI TO T f ∧ h.get? T = some oT ∧ T ≠ z ∧ T ≠ i1 ∧ T ≠ i2 ∧ T ≠ S)
theorem pit_zip (D : ZipSep2 z TI TO i1 i2 fp1 fp2) (D1 : Draws prog w A.in1 i1 fp1 n1 P1 St1) (D2 : Draws prog w A.in1 i2 fp2 n2 P2 St2) (hS : S ∉ z :: TI :: TO :: (fp1 ++ fp2)) :
    PIt prog w A z S [z, TO, i1, i2] (min n1 n2) (fun i x y => P1 i x ∧ P2 i y) (ZSt z TI TO i1 i2 S St1 St2) where
  keep := fun i h h' st k => by
    simp only [List.mem_cons, List.mem_append, not_or] at hS
    obtain ⟨s1, s2, s3, s4, s5⟩ := hS
    obtain ⟨hTI, a1, a2, hz⟩ := st
    refine ⟨k _ _ (Ne.symm s2) hTI, D1.frame _ _ _ a1 fun b hb o e => k b o (fun q => s4 (q ▸ hb)) e, D2.frame _ _ _ a2 fun b hb o e => k b o (fun q => s5 (q ▸ hb)) e, ?_⟩
    rcases hz with ⟨hz, a, b, hTO⟩ | ⟨T, f, oT, hz, hT, r1, r2, r3, r4⟩
    · exact .inl ⟨k _ _ (Ne.symm s1) hz, a, b, k _ _ (Ne.symm s3) hTO⟩
    · exact .inr ⟨T, f, oT, k _ _ (Ne.symm s1) hz, k _ _ r4 hT, r1, r2, r3, r4⟩
  item := fun i s Q E hi st hSs hQ => by
    obtain ⟨hTI, a1, a2, hz⟩ := st
    have l1 : i < n1 := Nat.lt_of_lt_of_le hi (Nat.min_le_left ..)
    have l2 : i < n2 := Nat.lt_of_lt_of_le hi (Nat.min_le_right ..)
    obtain ⟨o1, g1⟩ := D1.live _ _ a1
    obtain ⟨o2, g2⟩ := D2.live _ _ a2
    have m1 := Nat.ne_of_gt (Heap.lt_size g1)
    have m2 := Nat.ne_of_gt (Heap.lt_size g2)
    rcases hz with ⟨hz, a, b, hTO⟩ | ⟨T, f, oT, hz, hT, r1, r2, r3, r4⟩
    · refine wpAny_pyNext_zipD2_item D D1 D2 hz hTI hTO a1 a2 l1 l2 fun x1 x2 h' tk p1 p2 b1 b2 b3 b4 b5 b6 hk => ?_
      exact hQ x1 x2 h' tk ⟨p1, p2⟩ ⟨hk _ _ D.TIz D.TITO D.TIi1 D.TIi2 hTI, b3, b4, .inr ⟨s.heap.objs.size, false, _, b1, b5, Nat.ne_of_gt (Heap.lt_size hz), m1, m2, Nat.ne_of_gt hSs⟩⟩ b5 b6
        fun c o hc e => hk c o (fun x => hc (by simp [x])) (fun x => hc (by simp [x])) (fun x => hc (by simp [x])) (fun x => hc (by simp [x])) e
    · refine zipH_next D D1 D2 hz hT hTI a1 a2 l1 l2 fun x1 x2 h' tk p1 p2 b1 b3 b4 b5 b6 hk => ?_
      exact hQ x1 x2 h' tk ⟨p1, p2⟩ ⟨hk _ _ D.TIz D.TIi1 D.TIi2 hTI, b3, b4, .inr ⟨T, true, oT, b1, hk _ _ r1 r2 r3 hT, r1, r2, r3, r4⟩⟩ b5 b6
        fun c o hc e => hk c o (fun x => hc (by simp [x])) (fun x => hc (by simp [x])) (fun x => hc (by simp [x])) e
  done := fun s Q E st hQ => by
    obtain ⟨hTI, a1, a2, hz⟩ := st
    have he : min n1 n2 = n1 ∨ min n1 n2 = n2 := by omega
    rcases hz with ⟨hz, a, b, hTO⟩ | ⟨T, f, oT, hz, hT, r1, r2, r3, r4⟩
    · exact wpAny_pyNext_zipD2_end D D1 D2 hz hTI hTO a1 a2 (Nat.min_le_left ..) (Nat.min_le_right ..) he fun h' tk hk => hQ h' tk fun c o hc e => hk c o (fun x => hc (by simp [x])) (fun x => hc (by simp [x])) (fun x => hc (by simp [x])) (fun x => hc (by simp [x])) e
    · exact zipH_stop D D1 D2 hz hT hTI a1 a2 (Nat.min_le_left ..) (Nat.min_le_right ..) he fun h' tk hk => hQ h' tk fun c o hc e => hk c o (fun x => hc (by simp [x])) (fun x => hc (by simp [x])) (fun x => hc (by simp [x])) e
end
/-- many new objects laid and tracked -/
theorem inv_laids {X : Cx} {pins : List (Addr × Obj)} {σ : L2.St} {H H' : Hp} {s : Shared} {h' : Heap} {t' : Nat} (I : Inv X pins σ H s) (k : ∀ b u, s.heap.get? b = some u → h'.get? b = some u)
    (old : ∀ b, b < s.heap.objs.size → H' b = H b) (new : ∀ b u, s.heap.objs.size ≤ b → H' b = some u → ObjOk X.prog X.w H' h' b u) : Inv X pins σ H' { s with heap := h', toks := t' } := by
  refine I.un ⟨fun b u q _ _ _ => k b u q, fun b u q _ _ _ => ⟨u.slots, k b u q⟩, fun b u q n _ => (old b (Heap.lt_size q)).trans n, fun b u q _ => ⟨u, k b u q⟩, fun b xs q => (old b (I.hok.lt q)).trans q, fun b o xs q => (old b (I.hok.lt q)).trans q, fun b ps q => ⟨#[], by rw [old b (I.hok.lt q), q]; simp⟩⟩ fun b u e => ?_
  rcases Nat.lt_or_ge b s.heap.objs.size with hb | hb
  · rw [old b hb] at e
    exact (I.hok b u e).stay (fun c v _ q => k c v q) (fun c q => (old c (I.hok.lt q)).trans q) fun c xs q => (old c (I.hok.lt q)).trans q
  · exact new b u hb e
theorem lk_at {α : Type} : ∀ {as : List Nat} {pr : List α}, as.Pairwise (· < ·) → ∀ {j : Nat} {a : Nat} {p : α}, as[j]? = some a → pr[j]? = some p → (as.zip pr).lookup a = some p
  | [], _, _, j, _, _, e, _ => by simp at e
  | _ :: _, [], _, j, _, _, _, e => by simp at e
  | a0 :: as, p0 :: pr, hp, 0, a, p, e1, e2 => by
    simp at e1 e2
    subst e1 e2
    simp [List.lookup]
  | a0 :: as, p0 :: pr, hp, j + 1, a, p, e1, e2 => by
    have hp' := List.pairwise_cons.mp hp
    have e1' : as[j]? = some a := by simpa using e1
    have hlt := hp'.1 a (List.mem_of_getElem? e1')
    have ne : (a == a0) = false := by simp; omega
    rw [List.zip_cons_cons, List.lookup_cons, ne]
    exact lk_at hp'.2 e1' (by simpa using e2)
theorem lk_mem {α : Type} : ∀ {as : List Nat} {pr : List α} {a : Nat} {p : α}, (as.zip pr).lookup a = some p → ∃ j : Nat, as[j]? = some a ∧ pr[j]? = some p
  | [], _, _, _, e => by simp at e
  | _ :: _, [], _, _, e => by simp at e
  | a0 :: as, p0 :: pr, a, p, e => by
    rw [List.zip_cons_cons, List.lookup_cons] at e
    cases q : a == a0 with
    | true =>
      rw [q] at e
      have : a = a0 := by simpa using q
      cases e
      exact ⟨0, by simp [this], rfl⟩
    | false =>
      rw [q] at e
      obtain ⟨j, h1, h2⟩ := lk_mem e
      exact ⟨j + 1, by simpa using h1, by simpa using h2⟩
theorem nne {a b : Nat} (h : a < b ∨ b < a) : a ≠ b := by omega
theorem nin2 {a b c : Nat} (h : a < b ∨ b < a) (h2 : a < c ∨ c < a) : a ∉ [b, c] := by
  simp only [List.mem_cons, List.not_mem_nil, or_false]
  omega
theorem nin7 {a n d t : Nat} (h : a = n + 5) (hd : d < n) (ht : t < n) : a ∉ (n + 4) :: (n + 2) :: (n + 3) :: ([n, d] ++ [n + 1, t]) := by
  simp only [List.mem_cons, List.cons_append, List.nil_append, List.not_mem_nil, or_false]
  omega
theorem lt4 {m n : Nat} (h : m = n + 5) : ∀ b ∈ [n + 4, n + 3, n, n + 1], b < m := fun b z => by
  simp only [List.mem_cons, List.not_mem_nil, or_false] at z
  omega
theorem out4 {b n : Nat} (h : b < n) : b ∉ [n + 4, n + 3, n, n + 1] := fun z => by
  simp only [List.mem_cons, List.not_mem_nil, or_false] at z
  omega
/-- the pairs that the list holds -/
def PrsAt (H : Hp) (as : List Addr) (pr : List (V × V)) : Prop := as.length = pr.length ∧ ∀ (j : Nat) (a : Addr) (p : V × V), as[j]? = some a → pr[j]? = some p → H a = some (.tup [p.1, p.2])
def tListZip (K : PySem.W.Frag) (ta : TA) : TE := fun σ H Q => ta σ H fun vs H1 => ∃ d t kvs ys, vs = [V.ref d, V.ref t] ∧ Rd H1 d (.dK kvs) ∧ SqT K H1 t ys ∧
  ∀ S as H2, Same H1 H2 → H2 S = none → (∀ a ∈ as, H1 a = none) → PrsAt H2 as ((kvs.map fun kv => kV kv.1).zip ys) → Q (.ref S) (upd H2 S (.lst (as.map V.ref)))
section
variable {X : Cx} {e1 e2 : Expr} {ta : TA} {p p2 pos q2 : Pos}
theorem pe_listZip (hc : X.calm = true) (hg : Gl X "list") (hm : X.mg "list" = none) (hg2 : Gl X "zip") (hm2 : X.mg "zip" = none) (ha : PA X [e1, e2] ta)
    (hs : starEach [e1, e2] X.env = (false, eval e1 X.env) :: starEach [e2] X.env := by rfl) (hpl : (backTo q2 (starEach [e2] X.env)).any (·.1) = false := by rfl)
    (na : starEach [.Call (.Name "zip" p2) [e1, e2] [] q2] X.env = (false, eval (.Call (.Name "zip" p2) [e1, e2] [] q2) X.env) :: starEach [] X.env := by rfl) :
    PE X (.Call (.Name "list" p) [.Call (.Name "zip" p2) [e1, e2] [] q2] [] pos) (tListZip X.K ta) := by
  refine ⟨fun pins s σ H Q I h => ?_⟩
  refine Call_ (ld_blt I hg hm boot_list (PyProof.Rows.callWith_type1 (args_cons ?_ na) na))
  refine Call_ (ld_blt I hg2 hm2 PyProof.Rows.boot_zip (PyProof.Rows.callWith_type1 (thn (ha.run q2 pins s σ H _ I h) fun us s1 ⟨vs, H1, I1, r1, q1⟩ => ?_) hs hpl))
  obtain ⟨d, t, kvs, ys, ex, hd, ht, q1⟩ := q1
  subst ex
  cases r1 with
  | cons r rr =>
    cases rr with
    | cons r' rr =>
      cases rr
      cases r
      cases r'
      obtain ⟨its, rv, pt, hzt⟩ := I1.tuple ht
      obtain ⟨hz1, lo, vs, rk, hdo⟩ := (show ObjOk X.prog X.w H1 s1.heap d (.dK kvs) from hd.ok I1.hok)
      obtain ⟨ep, hat⟩ := hdo.dictAt
      obtain ⟨es, raw, esz, hes⟩ := hat.raw
      have hl : kvs.length = vs.length := KV.length rk
      have dlt : d < s1.heap.objs.size := hat.lt_size
      have tlt : t < s1.heap.objs.size := by
        obtain ⟨o, e, _⟩ := id pt
        exact Heap.lt_size e
      refine zip_begins2 (begins_keys d lo es ep) (begins_tuple t its.toArray) raw (show s1.heap.IsTuple t its.toArray from pt) fun h2 z1 z2 z3 z4 z5 z6 hk => ?_
      refine args_nil ?_
      generalize hN : s1.heap.objs.size = N at *
      have D : ZipSep2 (N + 4) (N + 2) (N + 3) N (N + 1) [N, d] [N + 1, t] :=
        ⟨nne (by omega), nne (by omega), nne (by omega), nne (by omega), by simp, nin2 (by omega) (.inr (Nat.lt_of_lt_of_le dlt (by omega))), nin2 (by omega) (.inr (Nat.lt_of_lt_of_le dlt (by omega))), nne (by omega), by simp, nin2 (by omega) (.inr (Nat.lt_of_lt_of_le tlt (by omega))), nin2 (by omega) (.inr (Nat.lt_of_lt_of_le tlt (by omega))), nin2 (by omega) (.inr tlt), nin2 (by omega) (.inr (Nat.lt_of_lt_of_le dlt (by omega)))⟩
      have hh := I1.ok.hd hc
      have W := pit_zip (S := h2.objs.size) (A := X.A.in1.in1) D (draws_keys (p := X.prog) (w := X.w) (B := X.A.in1.in1.in1) hh N d (Nat.ne_of_lt dlt) es ep) (Draws.tuple (prog := X.prog) (w := X.w) (A := X.A.in1.in1.in1) hh (N + 1) t (Nat.ne_of_lt (Nat.lt_succ_of_lt tlt)) its.toArray) (nin7 z6 dlt tlt)
      refine call_list_zip (s := { s1 with heap := h2 }) W ⟨z2, ⟨⟨_, z4, rfl, rfl⟩, raw.at fun o e => hk _ o e⟩, ⟨⟨_, z5, rfl, rfl⟩, (show s1.heap.IsTuple t its.toArray from pt).at fun o e => hk _ o e⟩, .inl ⟨z1, _, _, z3⟩⟩ (Nat.le_trans (Nat.min_le_left ..) (by rw [esz, ← hl]; exact hz1)) (lt4 z6) (fun h hk' => ⟨_, _, _, hk' _ _ z1⟩) fun h' tk acc c as hk' hS' hal hG hacc => ?_
      have keep : ∀ b o, s1.heap.get? b = some o → h'.get? b = some o := fun b o e => hk' b o (out4 (by rw [← hN]; exact Heap.lt_size e)) (hk b o e)
      have hprl : ((kvs.map fun kv => kV kv.1).zip ys).length = as.length := by
        rw [hal, List.length_zip, List.length_map, esz, hl, List.size_toArray, rv.length]
      generalize hpr : (kvs.map fun kv => kV kv.1).zip ys = pr at hprl q1
      have rel : ∀ (j : Nat) (a : Addr) (pp : V × V), as[j]? = some a → pr[j]? = some pp → ∃ x y, RelV pp.1 x ∧ RelV pp.2 y ∧ h'.get? a = some { cls := .type "tuple", data := .seq #[x, y] } := fun j a pp ha hp => by
        obtain ⟨x, y, ⟨⟨hi, ex⟩, ey⟩, e⟩ := hG.pairs j a ha
        rw [← hpr, List.getElem?_zip_eq_some] at hp
        obtain ⟨p1, p2⟩ := hp
        refine ⟨x, y, ?_, ?_, e⟩
        · rw [List.getElem?_map, Option.map_eq_some_iff] at p1
          obtain ⟨kv, p1, p1'⟩ := p1
          rw [← p1']
          have e1 : (vs.map (·.1))[j]? = some kv.1 := by
            rw [← KV.keys rk, List.getElem?_map, p1]
            all_goals rfl
          rw [List.getElem?_map, Option.map_eq_some_iff] at e1
          obtain ⟨⟨k, v⟩, e2, e3⟩ := e1
          have := (hes j hi k v e2).1
          rw [ex, ← e3]
          exact keyIs_rel this
        · obtain ⟨u, hu, ru⟩ := rv.get p2
          have : some y = some u := by
            rw [← hu, ← ey]
            simp
          cases this
          exact ru
      have alo : ∀ a ∈ as, h2.objs.size < a := fun a m => hG.above a m
      have fresh : ∀ b, N ≤ b → H1 b = none := fun b hb => I1.hok.fresh (by rw [hN]; exact hb)
      have hNM : N ≤ h2.objs.size := by omega
      have lo2 : ∀ a ∈ as, N ≤ a := fun a m => Nat.le_trans hNM (Nat.le_of_lt (alo a m))
      let H2 : Hp := fun b => match (as.zip pr).lookup b with
        | some pp => some (.tup [pp.1, pp.2])
        | none => H1 b
      have H2n : ∀ b, (∀ a ∈ as, b < a) → H2 b = H1 b := fun b hb => by
        show (match (as.zip pr).lookup b with | some pp => some (HO.tup [pp.1, pp.2]) | none => H1 b) = _
        cases q : (as.zip pr).lookup b with
        | none => rfl
        | some pp =>
          obtain ⟨j, h1, _⟩ := lk_mem q
          exact absurd (hb b (List.mem_of_getElem? h1)) (Nat.lt_irrefl _)
      have I2 : Inv X pins σ (upd H2 h2.objs.size (.lst (as.map V.ref))) { s1 with heap := h', toks := tk } := by
        refine inv_laids I1 keep (fun b hb => ?_) fun b u hb e => ?_
        · rw [hN] at hb
          rw [upd_ne (Nat.ne_of_lt (Nat.lt_of_lt_of_le hb hNM))]
          exact H2n b fun a m => Nat.lt_of_lt_of_le hb (lo2 a m)
        · by_cases hbs : b = h2.objs.size
          · subst hbs
            rw [upd_same] at e
            cases e
            refine ⟨?_, acc.toList, c, ?_, ?_⟩
            · rw [List.length_map, hal]
              exact Nat.le_trans (Nat.min_le_left ..) (by rw [esz, ← hl]; exact hz1)
            · rw [hacc]; exact vals_refs as
            · rw [Array.toArray_toList]; exact hS'
          · rw [upd_ne hbs] at e
            rw [hN] at hb
            replace e : (match (as.zip pr).lookup b with | some pp => some (HO.tup [pp.1, pp.2]) | none => H1 b) = some u := e
            cases q : (as.zip pr).lookup b with
            | none =>
              rw [q] at e
              replace e : H1 b = some u := e
              rw [fresh b hb] at e
              cases e
            | some pp =>
              rw [q] at e
              cases e
              obtain ⟨j, h1, h2⟩ := lk_mem q
              obtain ⟨x, y, rx, ry, eo⟩ := rel j b pp h1 h2
              exact ⟨by show 2 ≤ sizeLine; decide, [x, y], .cons rx (.cons ry .nil), ⟨_, eo, rfl, _, rfl⟩⟩
      refine ⟨.ref h2.objs.size, _, I2, rfl, ?_⟩
      refine q1 h2.objs.size as H2 (fun b u e => ?_) ?_ (fun a m => fresh a (lo2 a m)) ⟨hprl.symm, fun j a pp ha hp => ?_⟩
      · have hb := Nat.lt_of_not_le fun hb : N ≤ b => by
          rw [fresh b hb] at e
          cases e
        rw [H2n b fun a m => Nat.lt_of_lt_of_le hb (lo2 a m)]
        exact e
      · rw [H2n _ fun a m => alo a m]
        exact fresh _ hNM
      · show (match (as.zip pr).lookup a with | some pp => some (HO.tup [pp.1, pp.2]) | none => H1 a) = _
        rw [lk_at hG.rise ha hp]
end
/-- list(zip(dict, tuple)) -/
def nListZ (g : Am) : Rho → Option (T × Rho) := fun ρ => (g ρ).bind fun p => (rds p.2 p.1).bind fun es => match es with
  | [.dic kvs, .tup ds] => some (.ls (zipD (keysD kvs) ds), p.2)
  | _ => none
@[simp] theorem nListZ_ap (g : Am) (ρ : Rho) : nListZ g ρ = ((g ρ).bind fun p => (rds p.2 p.1).bind fun es => match es with
  | [.dic kvs, .tup ds] => some (.ls (zipD (keysD kvs) ds), p.2)
  | _ => none) := rfl
section
variable {X : Cx} {cm : Cm} {e1 e2 : Expr} {p p2 pos q2 : Pos}
theorem keys_rp {K : PySem.W.Frag} {A : AS} {H : Hp} : ∀ {ks : List (Key × V)} {kvs : List (DK × D)}, RpK K cm A H ks kvs → RpL K cm A H (ks.map fun kv => kV kv.1) (keysD kvs)
  | _, _, .nil => .nil
  | _, _, .cons (k := k) _ r => .cons (by cases k with
    | i n => exact .int n
    | s t => exact .str t) (keys_rp r)
theorem prs_rp {K : PySem.W.Frag} {A : AS} {H : Hp} (hA : ∀ a, A a → H a ≠ none) {H2 : Hp} (g : Same H H2) : ∀ {xs ys : List V} {ds es : List D} {as : List Addr}, RpL K cm A H xs ds → RpL K cm A H ys es → (∀ a ∈ as, H a = none) → PrsAt H2 as (xs.zip ys) → RpL K cm A H2 (as.map V.ref) (zipD ds es)
  | [], _, _, _, as, .nil, _, _, h => by
    have : as = [] := List.length_eq_zero_iff.mp (by rw [h.1]; simp)
    subst this
    exact .nil
  | _ :: _, [], _, _, as, .cons _ _, .nil, _, h => by
    have : as = [] := List.length_eq_zero_iff.mp (by rw [h.1]; simp)
    subst this
    exact .nil
  | x :: xs, y :: ys, _, _, as, .cons r rs, .cons r' rs', hn, h => by
    cases as with
    | nil => exact absurd h.1 (by simp)
    | cons a as =>
      refine .cons ?_ (prs_rp hA g rs rs' (fun b m => hn b (by simp [m])) ⟨by simpa using h.1, fun j b pp e1 e2 => h.2 (j + 1) b pp (by simpa using e1) (by simpa using e2)⟩)
      have e := h.2 0 a (x, y) rfl rfl
      exact .tup (.inl ⟨e, fun z => hA a z (hn a (by simp))⟩) (.cons (r.later (.same g)) (.one (r'.later (.same g))))
theorem fn_listZ {g : Am} (hc : X.calm = true) (hg : Gl X "list") (hm : X.mg "list" = none) (hg2 : Gl X "zip") (hm2 : X.mg "zip" = none) (ha : FA X cm [e1, e2] g)
    (hs : starEach [e1, e2] X.env = (false, eval e1 X.env) :: starEach [e2] X.env := by rfl) (hpl : (backTo q2 (starEach [e2] X.env)).any (·.1) = false := by rfl)
    (na : starEach [.Call (.Name "zip" p2) [e1, e2] [] q2] X.env = (false, eval (.Call (.Name "zip" p2) [e1, e2] [] q2) X.env) :: starEach [] X.env := by rfl) :
    FN X cm (.Call (.Name "list" p) [.Call (.Name "zip" p2) [e1, e2] [] q2] [] pos) (nListZ g) := (pe_listZip hc hg hm hg2 hm2 ha hs hpl na).imp fun σ H Q ⟨C, A, ρ, t, ρ', R, q, k⟩ => by
  unfold nListZ at q
  simp only [Option.bind_eq_some_iff] at q
  obtain ⟨⟨rs, ρ1⟩, h1, es, h2, h3⟩ := q
  refine ⟨C, A, ρ, rs, ρ1, R, h1, fun vs H1 A1 l1 R1 w1 => ?_⟩
  have r := rds_ok R1 w1 h2
  dsimp only at h3
  split at h3
  · cases h3
    cases r with
    | cons r1 r => cases r with
      | cons r2 r => cases r with
        | nil =>
          obtain ⟨d, ks, rfl, hd, rk⟩ := r1.di
          obtain ⟨t, ys, rfl, ht, ry⟩ := r2.tup
          refine ⟨d, t, ks, ys, rfl, hd, ht, fun S as H2 sm hS hn hp => ?_⟩
          have R2 := R1.grow sm
          obtain ⟨l2, R3, hF⟩ := own1 (o := .lst (as.map V.ref)) R2 hS
          exact k _ _ _ [S] ((l1.trans (.same sm)).trans l2) R3 ⟨S, _, rfl, rfl, upd_same, (prs_rp R1.dom sm (keys_rp rk) ry hn hp).later l2.l⟩ (by simp) hF
  · cases h3
end
end G

/-! La68: sorted(set(tuple of ints)). -/
namespace G
open PySem PySem.Spec L2 PyProof.Rows
/-- the ints of a list, each once, ascending -/
def isort (l : List Int) : List Int := (dis l).mergeSort (fun a b => decide (a ≤ b))
theorem isort_mem (l : List Int) (k : Int) : k ∈ isort l ↔ k ∈ l := by
  unfold isort
  rw [List.mem_mergeSort]
  exact dis_mem l k
theorem isort_lt (l : List Int) : (isort l).Pairwise (· < ·) := by
  have h := List.pairwise_mergeSort (le := fun a b : Int => decide (a ≤ b)) (fun a b c h1 h2 => by simp at *; omega) (fun a b => by simp; omega) (dis l)
  have hn : (isort l).Nodup := (List.mergeSort_perm (dis l) _).nodup_iff.mpr (dis_nd l)
  have hn2 : (isort l).Pairwise (fun a b => a ≠ b) := hn
  have h2 : (isort l).Pairwise (fun a b => decide (a ≤ b) = true) := h
  exact (h2.and hn2).imp fun {a b} z => by
    have := of_decide_eq_true z.1
    have := z.2
    omega
theorem isort_len (l : List Int) : (isort l).length ≤ l.length := by
  have e : (isort l).length = (dis l).length := (List.mergeSort_perm (dis l) _).length_eq
  rw [e]
  have : ∀ l : List Int, (dis l).length ≤ l.length := by
    intro l
    induction l with
    | nil => exact Nat.le_refl _
    | cons x r ih =>
      unfold dis
      split
      · rw [List.length_cons]; omega
      · rw [List.length_cons, List.length_cons]; omega
  exact this l
theorem asc_eqI : ∀ {l m : List Int}, l.Pairwise (· < ·) → m.Pairwise (· < ·) → (∀ x, x ∈ l ↔ x ∈ m) → l = m
  | [], [], _, _, _ => rfl
  | [], b :: m, _, _, h => by have := (h b).mpr (by simp); cases this
  | a :: l, [], _, _, h => by have := (h a).mp (by simp); cases this
  | a :: l, b :: m, hl, hm, h => by
    have hl' := List.pairwise_cons.mp hl
    have hm' := List.pairwise_cons.mp hm
    have e : a = b := by
      rcases List.mem_cons.mp ((h a).mp (by simp)) with q | q
      · exact q
      · rcases List.mem_cons.mp ((h b).mpr (by simp)) with q2 | q2
        · exact q2.symm
        · have := hm'.1 a q; have := hl'.1 b q2; omega
    subst e
    rw [asc_eqI hl'.2 hm'.2 fun x => ⟨fun mx => by
      rcases List.mem_cons.mp ((h x).mp (by simp [mx])) with q | q
      · have := hl'.1 x mx; omega
      · exact q, fun mx => by
      rcases List.mem_cons.mp ((h x).mpr (by simp [mx])) with q | q
      · have := hm'.1 x mx; omega
      · exact q⟩]
section
variable {X : Cx} {cm : Cm} {a : Expr} {p p2 q pos : Pos}
def tSsetI (K : PySem.W.Frag) (te : TE) : TE := fun σ H Q => te σ H fun x H1 => ∃ (l : Addr) (ns : List Int), x = V.ref l ∧ SqT K H1 l (ns.map V.int) ∧ ns.length < 63 ∧ ∀ p, H1 p = none → Q (.ref p) (upd H1 p (.lst ((isort ns).map V.int)))
theorem pe_ssetI {te : TE} (hc : X.calm = true) (hg : Gl X "sorted") (hm : X.mg "sorted" = none) (hg2 : Gl X "set") (hm2 : X.mg "set" = none) (ha : PE X a te)
    (na : starEach [a] X.env = (false, eval a X.env) :: starEach [] X.env := by rfl) : PE X (.Call (.Name "sorted" p) [.Call (.Name "set" p2) [a] [] q] [] pos) (tSsetI X.K te) := by
  refine ⟨fun pins s σ H Q I h => ?_⟩
  refine Call_ (ld_blt I hg hm PyProof.Rows.boot_sorted (PyProof.Rows.callWith_builtin1 (PyProof.Rows.args_cons ?_ rfl) rfl rfl))
  refine Call_ (ld_blt I hg2 hm2 PyProof.Rows.boot_set (PyProof.Rows.callWith_type1 (PyProof.Rows.args_cons (thn (ha.run pins s σ H _ I h) fun v s1 ⟨x, H1, I1, r1, q1⟩ => PyProof.Rows.args_nil ?_) na) na rfl))
  obtain ⟨l, ns, rfl, hq, hz, q1⟩ := q1
  cases r1
  obtain ⟨its, r, pl, _⟩ := I1.tuple hq
  refine call_set_tupI ns (I1.ok.hd hc) pl (by simpa using r.ints) (by unfold scanBound; omega) fun h' tk c hS hcl hk => PyProof.Rows.args_nil ?_
  have I2 : Inv X pins σ H1 { s1 with heap := h', toks := tk } := I1.kept hk
  refine sorted_set (s := { s1 with heap := h', toks := tk }) hS (I1.ok.hd hc) (by omega) fun s' p out c2 ms hk2 hg2 ho2 hp2 he2 hi2 hs2 hm2 hl2 => ?_
  have em : ms = isort ns := asc_eqI hs2 (isort_lt ns) fun k => by
    rw [isort_mem, hm2 k]
    simp
  subst em
  have hlen : ((isort ns).map V.int).length ≤ sizeLine := by
    rw [List.length_map, sizeLine_eq]
    have := isort_len ns
    omega
  have hn : H1 p = none := I2.hok.fresh hp2
  have J : Inv X pins σ (upd H1 p (.lst ((isort ns).map V.int))) { ({ s1 with heap := h', toks := tk } : Shared) with heap := s'.heap, gens := s'.gens, drawn := s'.drawn, toks := s'.toks } :=
    I2.call (ch := []) (Un.laid hk2 hp2 hn) (I2.hok.laid hk2 hp2 ⟨hlen, out.toList, c2, vals_of_ints hi2, he2⟩) (by rw [hg2]; exact I2.bare) (fun _ m => nomatch m)
  have es : s' = { ({ s1 with heap := h', toks := tk } : Shared) with heap := s'.heap, gens := s'.gens, drawn := s'.drawn, toks := s'.toks } := by
    cases s'
    cases s1
    cases ho2
    rfl
  rw [es]
  exact ⟨.ref p, _, J, rfl, q1 p hn⟩
def nSsetI (f : Em) : Rho → Option (T × Rho) := fun ρ => (f ρ).bind fun p => (rd p.2 p.1).bind fun d => match d with
  | .tup ds => (intL ds).bind fun ns => if ns.length < 63 then some (.ls ((isort ns).map D.int), p.2) else none
  | _ => none
@[simp] theorem nSsetI_ap (f : Em) (ρ : Rho) : nSsetI f ρ = ((f ρ).bind fun p => (rd p.2 p.1).bind fun d => match d with
  | .tup ds => (intL ds).bind fun ns => if ns.length < 63 then some (.ls ((isort ns).map D.int), p.2) else none
  | _ => none) := rfl
theorem fn_ssetI {f : Em} (hc : X.calm = true) (hg : Gl X "sorted") (hm : X.mg "sorted" = none) (hg2 : Gl X "set") (hm2 : X.mg "set" = none) (ha : FE X cm a f) (na : starEach [a] X.env = (false, eval a X.env) :: starEach [] X.env := by rfl) :
    FN X cm (.Call (.Name "sorted" p) [.Call (.Name "set" p2) [a] [] q] [] pos) (nSsetI f) := (pe_ssetI hc hg hm hg2 hm2 ha na).imp fun σ H Q ⟨C, A, ρ, t, ρ', R, q, k⟩ => by
  unfold nSsetI at q
  simp only [Option.bind_eq_some_iff] at q
  obtain ⟨⟨r, ρ1⟩, h1, d, h2, h3⟩ := q
  dsimp only at h3
  split at h3
  · rename_i ds
    rw [Option.bind_eq_some_iff] at h3
    obtain ⟨ns, e1, h3⟩ := h3
    split at h3
    · rename_i hz
      cases h3
      refine ⟨C, A, ρ, r, _, R, h1, fun v H1 A1 l1 R1 w1 => ?_⟩
      obtain ⟨a, xs, rfl, hs, rl⟩ := (rd_ok R1 w1 h2).tup
      have e2 := rl.intL e1
      subst e2
      refine ⟨a, ns, rfl, hs, hz, fun p hp => ?_⟩
      obtain ⟨l2, R2, hF⟩ := own1 (o := .lst ((isort ns).map V.int)) R1 hp
      exact k _ _ _ [p] (l1.trans l2) R2 ⟨p, _, rfl, rfl, upd_same, ints_rp (isort ns)⟩ (by simp) hF
    · cases h3
  · cases h3
end
end G

/-! La69: comprehensions whose elements may change the slots within a set of states. -/
namespace G
theorem lcF_mq {α : Type} {own : List Nat} {h : D → Rho → Option Rho} {ifs : Bm} {elt : Em} (R : Rho → Prop) (u g : α → D) : ∀ {xs : List α} {ρ : Rho}, R ρ → (∀ x ∈ xs, ∀ ρ, R ρ → ∃ ρ1 ρ2 r ρ3 ρ4, h (u x) ρ = some ρ1 ∧ ifs ρ1 = some (true, ρ2) ∧ elt ρ2 = some (r, ρ3) ∧ pu ρ3 r = some (g x) ∧ wipeS own ρ3 = some ρ4 ∧ R ρ4) →
    ∃ ρ', R ρ' ∧ lcF own h ifs elt (xs.map u) ρ = some (xs.map g, ρ')
  | [], ρ, h0, _ => ⟨ρ, h0, rfl⟩
  | x :: xs, ρ, h0, k => by
    obtain ⟨ρ1, ρ2, r, ρ3, ρ4, e1, e2, e3, e4, e5, h4⟩ := k x (by simp) ρ h0
    obtain ⟨ρ', h', ih⟩ := lcF_mq R u g (xs := xs) h4 fun d m => k d (by simp [m])
    exact ⟨ρ', h', by simp [lcF, e1, e2, e3, e4, e5, ih]⟩
theorem lcF_fq {α : Type} {own : List Nat} {h : D → Rho → Option Rho} {ifs : Bm} {elt : Em} (R : Rho → Prop) (u g : α → D) (p : α → Bool) : ∀ {xs : List α} {ρ : Rho}, R ρ → (∀ x ∈ xs, ∀ ρ, R ρ → ∃ ρ1 ρ2, h (u x) ρ = some ρ1 ∧ ifs ρ1 = some (p x, ρ2) ∧ (p x = true → ∃ r ρ3 ρ4, elt ρ2 = some (r, ρ3) ∧ pu ρ3 r = some (g x) ∧ wipeS own ρ3 = some ρ4 ∧ R ρ4) ∧ (p x = false → ∃ ρ4, wipeS own ρ2 = some ρ4 ∧ R ρ4)) →
    ∃ ρ', R ρ' ∧ lcF own h ifs elt (xs.map u) ρ = some ((xs.filter p).map g, ρ')
  | [], ρ, h0, _ => ⟨ρ, h0, rfl⟩
  | x :: xs, ρ, h0, k => by
    obtain ⟨ρ1, ρ2, e1, e2, e3, e4⟩ := k x (by simp) ρ h0
    cases hp : p x with
    | true =>
      obtain ⟨r, ρ3, ρ4, e5, e6, e7, h4⟩ := e3 hp
      obtain ⟨ρ', h', ih⟩ := lcF_fq R u g p (xs := xs) h4 fun d m => k d (by simp [m])
      exact ⟨ρ', h', by simp [lcF, e1, e2, hp, e5, e6, e7, ih, List.filter_cons]⟩
    | false =>
      obtain ⟨ρ4, e7, h4⟩ := e4 hp
      obtain ⟨ρ', h', ih⟩ := lcF_fq R u g p (xs := xs) h4 fun d m => k d (by simp [m])
      exact ⟨ρ', h', by simp [lcF, e1, e2, hp, e7, ih, List.filter_cons]⟩
end G

/-! La70: list * int; xs.count(int) of a list of ints; the least of sorted texts. -/
namespace G
open PySem PySem.Spec L2 PyProof.Rows
/-! ### list * int -/
def rMulL (K : PySem.W.Frag) : R2 := fun x y H Q => ∃ (l : Addr) (xs : List V) (k : Int), x = .ref l ∧ y = .int k ∧ SqL K H l xs ∧ -4096 ≤ k ∧ k ≤ 4096 ∧ xs.length * k.toNat ≤ 4096 ∧ ∀ p, H p = none → Q (.ref p) (upd H p (.lst (List.replicate k.toNat xs).flatten))
section
variable {X : Cx}
theorem vals_rep {vs : List V} {its : List Value} (h : Vals vs its) : ∀ k : Nat, Vals (List.replicate k vs).flatten (List.replicate k its).flatten
  | 0 => .nil
  | k + 1 => by
    rw [List.replicate_succ, List.replicate_succ, List.flatten_cons, List.flatten_cons]
    exact h.append (vals_rep h k)
theorem lmul_fold (its : List Value) : ∀ (k : Nat) (acc : Array Value), List.foldl (fun x1 x2 => x1 ++ x2) acc (List.replicate k its.toArray) = (acc.toList ++ (List.replicate k its).flatten).toArray
  | 0, acc => by simp
  | k + 1, acc => by simp [List.replicate_succ, lmul_fold its k, List.append_assoc]
theorem lmul_if (its : List Value) (k : Nat) : List.foldl (fun x1 x2 => x1 ++ x2) #[] (List.replicate (if its.toArray.isEmpty = true then 0 else k) its.toArray) = (List.replicate k its).flatten.toArray := by
  rw [lmul_fold]
  cases its with
  | nil => simp
  | cons a r => simp
theorem lmul_len {α : Type} (ds : List α) : ∀ k : Nat, (List.replicate k ds).flatten.length = k * ds.length
  | 0 => by simp
  | k + 1 => by simp [List.replicate_succ, lmul_len ds k, Nat.succ_mul, Nat.add_comm]
theorem op_mulL : OpR X (binaryOp .Mult) (rMulL X.K) := by
  intro pins s σ H x y v u Q I rx ry h
  obtain ⟨l, xs, k, rfl, rfl, hH, hlo, hhi, hsz, q⟩ := h
  cases rx
  obtain ⟨t, rfl⟩ := ry
  obtain ⟨its, r, ⟨⟨cls, dd, data, sl⟩, n, ho, hc, hd0, hd⟩, z⟩ := I.list hH
  simp only at hc hd hd0
  subst hc hd hd0
  have hl := r.length
  have hsz' : its.toArray.size * k.toNat ≤ 4096 := by
    rw [List.size_toArray, ← hl]
    exact hsz
  refine wpAny_binaryOp_repeat_ref (T := "list") (U := "int") (by decide) ⟨_, ho, rfl⟩ (fun s' => typeIs_int s' k t) noFill_list_mul F.fills_int_mul F.slot_int_rmul repeat_list F.slot_int_index.lookup
    (call_meets F.slot_int_rmul (typeIs_int s k t) F.entry_int_rmul (F.args_int_rmul_2 _ _) (lm_int_rmul_list_any k t l its.toArray n none sl)
      ⟨ho, rfl, ⟨_, ho, rfl⟩, call_meets F.slot_list_mul ⟨_, ho, rfl⟩ F.entry_list_mul (F.args_list_mul_2 _ _)
        (lm_list_mul_any l its.toArray n none sl k t (by simp [Builtin.List.listFitsIndex]; omega) (by omega) (by rw [Builtin.List.listTooLong, sizeLine]; simp; rw [List.size_toArray] at hsz'; omega))
        ⟨ho, ?_⟩⟩)
  rw [lmul_if]
  exact ⟨.ref _, _, I.lnew (t' := s.toks) (vals_rep r k.toNat) (by
    rw [lmul_len, sizeLine_eq, Nat.mul_comm]
    omega), rfl, q _ I.fresh⟩
end
section
variable {K : PySem.W.Frag} {cm : Cm}
theorem rpl_rep {A : AS} {H : Hp} {xs : List V} {ds : List D} (h : RpL K cm A H xs ds) : ∀ k : Nat, RpL K cm A H (List.replicate k xs).flatten (List.replicate k ds).flatten
  | 0 => .nil
  | k + 1 => by
    rw [List.replicate_succ, List.replicate_succ, List.flatten_cons, List.flatten_cons]
    exact h.app (rpl_rep h k)
def cMulL : D → D → Option D
  | .lst ds, .int k => if -4096 ≤ k ∧ k ≤ 4096 ∧ ds.length * k.toNat ≤ 4096 then some (.lst (List.replicate k.toNat ds).flatten) else none
  | _, _ => none
theorem ro_mulL : RO K cm (rMulL K) cMulL := by
  intro A H x y dx dy dz Q hd hx hy e k
  unfold cMulL at e
  split at e
  · split at e
    · rename_i hz
      cases e
      obtain ⟨a, xs, rfl, hl, r⟩ := hx.ls
      cases hy.int
      refine ⟨a, xs, _, rfl, rfl, hl, hz.1, hz.2.1, by rw [r.length]; exact hz.2.2, fun p hp => k _ _ (same_new hp) (new_lst hd hp (rpl_rep r _))⟩
    · cases e
  · cases e
end
@[simp] theorem cMulL_one (d : D) (k : Nat) (h : k ≤ 4096) : cMulL (.lst [d]) (.int (k : Int)) = some (.lst (List.replicate k d)) := by
  show (if -4096 ≤ (k : Int) ∧ (k : Int) ≤ 4096 ∧ [d].length * (k : Int).toNat ≤ 4096 then some (D.lst (List.replicate (k : Int).toNat [d]).flatten) else none) = _
  rw [if_pos (by refine ⟨by omega, by omega, ?_⟩; simp; exact h)]
  simp
/-- list * int makes a list of one's own -/
def nMulL (f g : Em) : Rho → Option (T × Rho) := fun ρ => (f ρ).bind fun p => (g p.2).bind fun q => (rd q.2 p.1).bind fun x => (rd q.2 q.1).bind fun y => match x, y with
  | .lst ds, .int k => if -4096 ≤ k ∧ k ≤ 4096 ∧ ds.length * k.toNat ≤ 4096 then some (.ls (List.replicate k.toNat ds).flatten, q.2) else none
  | _, _ => none
@[simp] theorem nMulL_ap (f g : Em) (ρ : Rho) : nMulL f g ρ = ((f ρ).bind fun p => (g p.2).bind fun q => (rd q.2 p.1).bind fun x => (rd q.2 q.1).bind fun y => match x, y with
  | .lst ds, .int k => if -4096 ≤ k ∧ k ≤ 4096 ∧ ds.length * k.toNat ≤ 4096 then some (.ls (List.replicate k.toNat ds).flatten, q.2) else none
  | _, _ => none) := rfl
section
variable {X : Cx} {cm : Cm} {pos : Pos} {a b : Expr}
theorem fn_mulL {f g : Em} (ha : FE X cm a f) (hb : FE X cm b g) : FN X cm (.BinOp a .Mult b pos) (nMulL f g) := (pe_op op_mulL ha hb).imp fun σ H Q ⟨C, A, ρ, t, ρ', R, q, k⟩ => by
  unfold nMulL at q
  simp only [Option.bind_eq_some_iff] at q
  obtain ⟨⟨p, ρ1⟩, h1, ⟨r, ρ2⟩, h2, x, h3, y, h4, h5⟩ := q
  dsimp only at h5
  split at h5
  · rename_i ds n
    split at h5
    · rename_i hz
      cases h5
      refine ⟨C, A, ρ, p, ρ1, R, h1, fun v1 H1 A1 l1 R1 w1 => ⟨C, A1, ρ1, r, _, R1, h2, fun v2 H2 A2 l2 R2 w2 => ?_⟩⟩
      obtain ⟨a, xs, rfl, hs, rl⟩ := (rd_ok R2 (w1.later l2) h3).ls
      have r2 := rd_ok R2 w2 h4
      cases r2.int
      refine ⟨a, xs, n, rfl, rfl, hs, hz.1, hz.2.1, by rw [rl.length]; exact hz.2.2, fun p hp => ?_⟩
      obtain ⟨l3, R3, hF⟩ := own1 (o := .lst (List.replicate n.toNat xs).flatten) R2 hp
      exact k _ _ _ [p] ((l1.trans l2).trans l3) R3 ⟨p, _, rfl, rfl, upd_same, (rpl_rep rl _).later l3.l⟩ (by simp) hF
    · cases h5
  · cases h5
end
/-! ### xs.count(k) of ints -/
def cLCnt : D → List D → Option D
  | .lst ds, [.int k] => (intL ds).map fun ns => .int (ns.count k : Nat)
  | _, _ => none
def isLstD : D → Bool
  | .lst _ => true
  | _ => false
def eLCnt (f : Em) (g : Am) : Em := fun ρ => (f ρ).bind fun p => (rd p.2 p.1).bind fun d0 => if isLstD d0 then (g p.2).bind fun q => (rd q.2 p.1).bind fun d => (pus q.2 q.1).bind fun es => (cLCnt d es).map fun z => (.val z, q.2) else none
@[simp] theorem eLCnt_ap (f : Em) (g : Am) (ρ : Rho) : eLCnt f g ρ = ((f ρ).bind fun p => (rd p.2 p.1).bind fun d0 => if isLstD d0 then (g p.2).bind fun q => (rd q.2 p.1).bind fun d => (pus q.2 q.1).bind fun es => (cLCnt d es).map fun z => (.val z, q.2) else none) := rfl
section
variable {X : Cx} {cm : Cm} {pos : Pos} {e o : Expr}
theorem fe_lcnt {f : Em} {g : Am} {apos cpos : Pos} (ho : FE X cm o f) (ha : FA X cm [e] g)
    (hbase : attributeBase o "count" X.env (eval o X.env) = eval o X.env := by rfl)
    (hfew : ((backTo cpos (starEach [e] X.env)).all (fun x => !x.1) && (backToKw cpos (keywordEach [] X.env)).all (fun x => x.1.isSome)
      && decide ([e].length + ([] : List Keyword).length + (if ([] : List Keyword).isEmpty then 0 else 1) < 30)) = true := by rfl)
    (hline : (apos.endLine == cpos.line) = true := by rfl) (hs : starEach [e] X.env = (false, eval e X.env) :: starEach [] X.env := by rfl) (hplain : (backTo cpos (starEach [] X.env)).any (·.1) = false := by rfl) :
    FE X cm (.Call (.Attribute o "count" apos) [e] [] cpos) (eLCnt f g) :=
  (pe_bm PySem.F.plainAttrs_list PySem.F.slot_list_count PySem.F.type_list_count mt_lcount ho ha hbase hfew hline hs hplain).imp fun σ H Q ⟨C, A, ρ, t, ρ', R, q, k⟩ => by
    unfold eLCnt at q
    simp only [Option.bind_eq_some_iff] at q
    obtain ⟨⟨r, ρ1⟩, h1, d0, h2, q⟩ := q
    split at q
    rotate_left
    · cases q
    rename_i hd0
    simp only [Option.bind_eq_some_iff, Option.map_eq_some_iff] at q
    obtain ⟨⟨rs, ρ2⟩, h3, d, h4, es', h5, z, h6, h7⟩ := q
    cases h7
    refine ⟨C, A, ρ, r, ρ1, R, h1, fun v H1 A1 l1 R1 w1 => ?_⟩
    cases d0 <;> try cases hd0
    obtain ⟨a0, xs0, e0, s0, _⟩ := (rd_ok R1 w1 h2).ls
    refine ⟨by subst e0; exact .inl ⟨rfl, xs0, s0⟩, C, A1, ρ1, rs, ρ2, R1, h3, fun vs H2 A2 l2 R2 w2 => ?_⟩
    have r1 := rd_ok R2 (w1.later l2) h4
    have r2 := pus_ok R2 w2 h5
    unfold cLCnt at h6
    split at h6
    · rename_i ds j
      rw [Option.map_eq_some_iff] at h6
      obtain ⟨ns, e1, rfl⟩ := h6
      obtain ⟨a, xs, rfl, hs', rl⟩ := r1.ls
      have e2 := rl.intL e1
      subst e2
      cases r2 with
      | cons ry rn =>
      cases rn
      cases ry
      exact ⟨a, ns, j, rfl, rfl, hs', k _ H2 A2 (l1.trans l2) R2 (.int _)⟩
    · cases h6
end
end G

/-! La71: list(dict). -/
namespace G
open PyProof.Rows PySem PySem.Calls PySem.Spec L2
theorem vals_pw : ∀ {xs : List V} {its : List Value}, xs.length = its.length → (∀ (j : Nat) (x : V) (y : Value), xs[j]? = some x → its[j]? = some y → RelV x y) → Vals xs its
  | [], [], _, _ => .nil
  | [], _ :: _, e, _ => by simp at e
  | _ :: _, [], e, _ => by simp at e
  | x :: xs, y :: its, e, h => .cons (h 0 x y rfl rfl) (vals_pw (by simpa using e) fun j a b e1 e2 => h (j + 1) a b (by simpa using e1) (by simpa using e2))
section
variable {X : Cx} {cm : Cm} {e : Expr} {p pos : Pos}
def tListK (te : TE) : TE := fun σ H Q => te σ H fun x H1 => ∃ d ks, x = V.ref d ∧ Rd H1 d (.dK ks) ∧ ∀ p, H1 p = none → Q (.ref p) (upd H1 p (.lst (ks.map fun kv => kV kv.1)))
theorem pe_listK {te : TE} (hcalm : X.calm = true) (hg : Gl X "list") (hm : X.mg "list" = none) (he : PE X e te)
    (na : starEach [e] X.env = (false, eval e X.env) :: starEach [] X.env := by rfl) :
    PE X (.Call (.Name "list" p) [e] [] pos) (tListK te) := by
  refine ⟨fun pins s σ H Q I h => ?_⟩
  refine Call_ (ld_blt I hg hm boot_list ?_)
  refine PyProof.Rows.callWith_type1 (PyProof.Rows.args_cons (thn (he.run pins s σ H _ I h) fun u s1 ⟨x, H1, I1, rx, d, kvs, ex, hd, q⟩ => PyProof.Rows.args_nil ?_) na) na rfl
  subst ex
  obtain rfl : u = Value.ref d := rx
  obtain ⟨z, lo, vs, rel, dd⟩ := dk_rd I1.hok hd
  obtain ⟨ep, hm⟩ := dd.dictAt
  have hl : kvs.length = vs.length := rel.length
  refine PySem.W.kdl_call (PySem.W.kdl_dict (knd := mixKind X.prog X.w) (kvs := vs) (ep := ep) lo) (I1.ok.hd hcalm) hm (by rw [← hl]; exact z) fun h' tk acc c' hk hD hacc => ?_
  have hv : Vals (kvs.map fun kv => kV kv.1) acc.toList := vals_pw ((List.length_map ..).trans (hl.trans (hacc.1.symm.trans (Array.length_toList ..).symm))) fun j x y e1 e2 => by
    obtain ⟨k, x0, e3, e4⟩ := hacc.2 j y (by rw [← Array.getElem?_toList]; exact e2)
    rw [List.getElem?_map, Option.map_eq_some_iff] at e1
    obtain ⟨kv, e5, rfl⟩ := e1
    have e6 : (vs.map (·.1))[j]? = some kv.1 := by
      rw [← KV.keys rel, List.getElem?_map, e5]
      all_goals rfl
    rw [List.getElem?_map, e3] at e6
    cases e6
    exact keyIs_rel e4
  exact ⟨V.ref s1.heap.objs.size, upd H1 s1.heap.objs.size (.lst (kvs.map fun kv => kV kv.1)), I1.laid (t' := tk) hk (Nat.le_refl _) (show ObjOk X.prog X.w _ _ _ (.lst (kvs.map fun kv => kV kv.1)) from ⟨by rw [List.length_map]; exact z, acc.toList, c', hv, by rw [Array.toArray_toList]; exact hD⟩), rfl, q _ I1.fresh⟩
def nListK (f : Em) : Rho → Option (T × Rho) := fun ρ => (f ρ).bind fun p => (rd p.2 p.1).bind fun d => match d with
  | .dic kvs => some (.ls (keysD kvs), p.2)
  | _ => none
@[simp] theorem nListK_ap (f : Em) (ρ : Rho) : nListK f ρ = ((f ρ).bind fun p => (rd p.2 p.1).bind fun d => match d with
  | .dic kvs => some (.ls (keysD kvs), p.2)
  | _ => none) := rfl
theorem fn_listK {f : Em} (hcalm : X.calm = true) (hg : Gl X "list") (hm : X.mg "list" = none) (he : FE X cm e f)
    (na : starEach [e] X.env = (false, eval e X.env) :: starEach [] X.env := by rfl) :
    FN X cm (.Call (.Name "list" p) [e] [] pos) (nListK f) :=
  (pe_listK hcalm hg hm he na).imp fun σ H Q ⟨C, A, ρ, t, ρ', R, q, k⟩ => by
    unfold nListK at q
    simp only [Option.bind_eq_some_iff] at q
    obtain ⟨⟨r, ρ1⟩, h1, d, h2, h3⟩ := q
    dsimp only at h3
    split at h3
    · rename_i kvs
      cases h3
      refine ⟨C, A, ρ, r, _, R, h1, fun v H1 A1 l1 R1 w1 => ?_⟩
      obtain ⟨a, ks, rfl, hl, rl⟩ := (rd_ok R1 w1 h2).di
      refine ⟨a, ks, rfl, hl, fun p hp => ?_⟩
      obtain ⟨l2, R2, hF⟩ := own1 (o := .lst (ks.map fun kv => kV kv.1)) R1 hp
      exact k _ _ _ [p] (l1.trans l2) R2 ⟨p, _, rfl, rfl, upd_same, (keys_rp rl).later l2.l⟩ (by simp) hF
    · cases h3
end
end G

/-! La72: comprehensions of two, the inner one over a kept dict. -/
namespace G
open PySem PySem.Spec L2
def kpD (ρ : Rho) (i : Nat) : Option (List (DK × D)) := match ρ[i]? with
  | some (.v (.p (.dic kvs))) => some kvs
  | _ => none
theorem kpD_some {ρ : Rho} {i : Nat} {kvs : List (DK × D)} (h : kpD ρ i = some kvs) : ρ[i]? = some (.v (.p (.dic kvs))) := by
  unfold kpD at h
  split at h <;> cases h
  assumption
def iKeyP (i : Nat) : Im := fun ρ => (kpD ρ i).map fun kvs => (keysD kvs, ρ)
@[simp] theorem iKeyP_ap (i : Nat) (ρ : Rho) : iKeyP i ρ = ((kpD ρ i).map fun kvs => (keysD kvs, ρ)) := rfl
def nLc2K (i : Nat) (own own1 : List Nat) (f : Im) (h : D → Rho → Option Rho) (ifs : Bm) (h1 : D → Rho → Option Rho) (ifs1 : Bm) (elt : Em) : Rho → Option (T × Rho) := fun ρ => (kpD ρ i).bind fun _ => nLc2 own own1 f h ifs (iKeyP i) h1 ifs1 elt ρ
@[simp] theorem nLc2K_ap (i : Nat) (own own1 : List Nat) (f : Im) (h : D → Rho → Option Rho) (ifs : Bm) (h1 : D → Rho → Option Rho) (ifs1 : Bm) (elt : Em) (ρ : Rho) : nLc2K i own own1 f h ifs h1 ifs1 elt ρ = ((kpD ρ i).bind fun _ => nLc2 own own1 f h ifs (iKeyP i) h1 ifs1 elt ρ) := rfl
theorem kept_dic {K : PySem.W.Frag} {cm : Cm} {A : AS} {H : Hp} {C : Fc} {σ : L2.St} {ρ : Rho} {i : Nat} {kvs : List (DK × D)} (R : RS K cm C A [] σ H ρ) (q : ρ[i]? = some (.v (.p (.dic kvs)))) : ∃ d ks, σ[i]? = some (some (.ref d)) ∧ Rd H d (.dK ks) ∧ ¬ A d ∧ RpK K cm A H ks kvs := by
  obtain ⟨F, _, _, _, _, h5⟩ := R.sl
  obtain ⟨o, e1, v, rfl, rt, _⟩ := h5 i _ q
  obtain ⟨_, rp⟩ := rt
  cases rp with
  | dic h n r => exact ⟨_, _, e1, h, n, r⟩
section
variable {X : Cx} {cm : Cm} {pos : Pos} {elt tg iter tg1 iter1 : Expr} {ifs ifs1 : List Expr}
theorem tLc2_coreK {wi1 : TI} {K : PySem.W.Frag} {wi : TI} {own own1 is is1 : List Nat} {ds all : List D} {h h1 : D → Rho → Option Rho} {g g1 : Bm} {f1 : Im} {el : Em} {σ : L2.St} {H : Hp} {Q : VK} {C : Fc} {A : AS} {ρ1 ρw ρ2 : Rho} (hv : ∀ i ∈ own1, i ∈ own) (hsub : ∀ i ∈ is, i ∈ own) (hsub1 : ∀ i ∈ is1, i ∈ own1)
    (hi1 : ∀ C' A5 H5 ρ4 ds1 ρ5 (σ2 : L2.St), wipe σ2 own = wipe σ own → Lt C A H A5 H5 → RS K cm C' A5 [] σ2 H5 ρ4 → f1 ρ4 = some (ds1, ρ5) → ∀ Q' : It → Hp → Prop, (∀ J1 H6 A6 W6, Lt C' A5 H5 A6 H6 → RS K cm C' A6 [] σ2 H6 ρ5 → ItOk K cm J1 W6 ds1 → W6 A6 H6 → Q' J1 H6) → wi1 σ2 H5 Q')
    (hw : ∀ R' : It → Hp → Prop, (∀ J H1 A1 W, Lt C A H A1 H1 → RS K cm C A1 [] σ H1 ρ1 → ItOk K cm J W ds → W A1 H1 → R' J H1) → wi σ H R') (hbig : all.length ≤ big) (h2 : wipeS own ρ1 = some ρw) (h3 : lc2F own own1 h g f1 h1 g1 el ds ρw = some (all, ρ2))
    (k : ∀ v H' A' F, Lt C A H A' H' → RS K cm C A' F σ H' (back ρ1 ρ2 own) → RT K cm A' H' v (.ls all) F → F.Nodup → (∀ a ∈ F, C.H0 a = none ∧ A' a ∧ ¬ C.A0 a) → Q v H') : tLc2 wi (tG K cm is h) (tT K cm g) wi1 (tG K cm is1 h1) (tT K cm g1) (tE K cm el) own own1 σ H Q := by
  refine hw _ fun J H1 A1 W l1 R1 hJ w1 D hD => ?_
  obtain ⟨lD, RD, hF⟩ := G.own1 (o := .lst []) R1 hD
  have hA0 : ¬ C.A0 D := (hF D (by simp)).2.2
  have hH0 : C.H0 D = none := (hF D (by simp)).1
  have RW := (RD.plus (.inr rfl)).wipe h2
  refine ⟨fun i m Hc => m = ds.length - i ∧ i ≤ ds.length ∧ ∃ Ac ρc acc dacc ys, Lt C A1 H1 Ac Hc ∧ RS K cm (C.plus D) Ac [] (wipe σ own) Hc ρc ∧ W Ac Hc ∧ Hc D = some (.lst acc) ∧ RpL K cm Ac Hc acc dacc ∧ Ac D ∧ lc2F own own1 h g f1 h1 g1 el (ds.drop i) ρc = some (ys, ρ2) ∧ dacc ++ ys = all,
    ⟨ds.length, by simp, Nat.zero_le _, _, ρw, [], [], all, lD, RW, hJ.stay _ _ _ _ w1 lD.l, upd_same, .nil, .inr rfl, h3, rfl⟩, ?_⟩
  rintro i m Hc ⟨rfl, hi, Ac, ρc, acc, dacc, ys, lc, Rc, wc, hc, rc, hAc, qc, hall⟩
  by_cases hlt : i < ds.length
  · rw [drop_cons_of hlt] at qc
    simp only [lc2F, Option.bind_eq_some_iff] at qc
    obtain ⟨ρ3, q3, ⟨b, ρ4⟩, q4, q5⟩ := qc
    refine .inr ⟨hJ.go Ac Hc i wc hlt, fun H' => i + 1 ≤ ds.length ∧ ∃ Ac ρc acc dacc ys, Lt C A1 H1 Ac H' ∧ RS K cm (C.plus D) Ac [] (wipe σ own) H' ρc ∧ W Ac H' ∧ H' D = some (.lst acc) ∧ RpL K cm Ac H' acc dacc ∧ Ac D ∧ lc2F own own1 h g f1 h1 g1 el (ds.drop (i + 1)) ρc = some (ys, ρ2) ∧ dacc ++ ys = all,
      fun H' h' => ⟨ds.length - (i + 1), by omega, rfl, h'⟩, fun x H3 hy => ?_⟩
    obtain ⟨g3, r3⟩ := hJ.yld Ac Hc i x H3 ds[i] wc Rc.dom (List.getElem?_eq_getElem hlt) hy
    have R3 := Rc.grow g3
    have l3 : Lt (C.plus D) Ac Hc Ac H3 := .same g3
    refine ⟨C.plus D, Ac, ρc, ds[i], ρ3, R3, r3, q3, fun σ2 H4 A4 l4 R4 el2 fe2 => ?_⟩
    have hw2 : wipe σ2 own = wipe σ own := by
      rw [← wipe_wipe σ own]
      exact wipe_same el2 fun j hj => fe2 j fun z => hj (hsub j z)
    refine ⟨hw2, C.plus D, A4, ρ3, b, ρ4, R4, q4, fun H5 A5 l5 R5 => ?_⟩
    have l35 := (l3.trans l4).trans l5
    cases b with
    | false =>
      simp only [Bool.false_eq_true, if_false, Option.bind_eq_some_iff] at q5
      obtain ⟨ρ5, q6, q7⟩ := q5
      have R6 := R5.wipe q6
      rw [hw2] at R6
      exact iteF ⟨hlt, A5, ρ5, acc, dacc, ys, lc.trans l35.of_plus, R6, hJ.stay _ _ _ _ wc l35.l, l35.o D _ (.inr rfl) hc pl_lst.1, rc.later l35.l, R5.out D (.inr rfl), q7, hall⟩
    | true =>
      simp only [if_true, Option.bind_eq_some_iff, Option.map_eq_some_iff] at q5
      obtain ⟨⟨ds1, ρ5⟩, q6, ρ6, q7, ⟨ys1, ρ7⟩, q8, ρ8, q9, ⟨ys2, ρ9⟩, q10, q11⟩ := q5
      cases q11
      refine iteT (hi1 _ _ _ _ _ _ _ hw2 ((l1.trans lc).trans l35.of_plus) R5 q6 _ fun J1 H6 A6 W6 l6 R6 hJ1 w6 => ?_)
      have l36 := l35.trans l6
      have R6w := R6.wipe q7
      refine ⟨fun j m1 Hi => m1 = ds1.length - j ∧ j ≤ ds1.length ∧ ∃ Ai ρi acci dacci zs, Lt C A1 H1 Ai Hi ∧ Later Ac Hc Ai Hi ∧ RS K cm (C.plus D) Ai [] (wipe σ2 own1) Hi ρi ∧ W6 Ai Hi ∧ Hi D = some (.lst acci) ∧ RpL K cm Ai Hi acci dacci ∧ Ai D ∧ lcF own1 h1 g1 el (ds1.drop j) ρi = some (zs, ρ7) ∧ dacci ++ zs = dacc ++ ys1,
        ⟨ds1.length, by simp, Nat.zero_le _, A6, ρ6, acc, dacc, ys1, lc.trans l36.of_plus, l36.l, R6w, w6, l36.o D _ (.inr rfl) hc pl_lst.1, rc.later l36.l, R6.out D (.inr rfl), q8, rfl⟩, ?_⟩
      rintro j m1 Hi ⟨rfl, hj, Ai, ρi, acci, dacci, zs, li, lti, Ri, wi', hDi, rci, hAi, qi, halli⟩
      by_cases hlt1 : j < ds1.length
      · rw [drop_cons_of hlt1] at qi
        simp only [lcF, Option.bind_eq_some_iff] at qi
        obtain ⟨ρa, qa, ⟨b1, ρb⟩, qb, qc'⟩ := qi
        refine .inr ⟨hJ1.go Ai Hi j wi' hlt1, fun Hn => j + 1 ≤ ds1.length ∧ ∃ Ai ρi acci dacci zs, Lt C A1 H1 Ai Hn ∧ Later Ac Hc Ai Hn ∧ RS K cm (C.plus D) Ai [] (wipe σ2 own1) Hn ρi ∧ W6 Ai Hn ∧ Hn D = some (.lst acci) ∧ RpL K cm Ai Hn acci dacci ∧ Ai D ∧ lcF own1 h1 g1 el (ds1.drop (j + 1)) ρi = some (zs, ρ7) ∧ dacci ++ zs = dacc ++ ys1,
          fun Hn hn => ⟨ds1.length - (j + 1), by omega, rfl, hn⟩, fun x1 Hy hy1 => ?_⟩
        obtain ⟨gy, ry1⟩ := hJ1.yld Ai Hi j x1 Hy ds1[j] wi' Ri.dom (List.getElem?_eq_getElem hlt1) hy1
        have Ry := Ri.grow gy
        have ly : Lt (C.plus D) Ai Hi Ai Hy := .same gy
        refine ⟨C.plus D, Ai, ρi, ds1[j], ρa, Ry, ry1, qa, fun σ3 Ha Aa la Ra ela fea => ?_⟩
        have hw3 : wipe σ3 own1 = wipe σ2 own1 := by
          rw [← wipe_wipe σ2 own1]
          exact wipe_same ela fun q hq => fea q fun z => hq (hsub1 q z)
        refine ⟨hw3, C.plus D, Aa, ρa, b1, ρb, Ra, qb, fun Hb Ab lb Rb => ?_⟩
        have lyb := (ly.trans la).trans lb
        cases b1 with
        | false =>
          simp only [Bool.false_eq_true, if_false, Option.bind_eq_some_iff] at qc'
          obtain ⟨ρe, qe, qf⟩ := qc'
          have Re := Rb.wipe qe
          rw [hw3] at Re
          exact iteF ⟨hlt1, Ab, ρe, acci, dacci, zs, li.trans lyb.of_plus, lti.trans lyb.l, Re, hJ1.stay _ _ _ _ wi' lyb.l, lyb.o D _ (.inr rfl) hDi pl_lst.1, rci.later lyb.l, Rb.out D (.inr rfl), qf, halli⟩
        | true =>
          simp only [if_true, Option.bind_eq_some_iff, Option.map_eq_some_iff] at qc'
          obtain ⟨⟨rv, ρd⟩, qd, yv, qe, ρf, qf, ⟨zs', ρg⟩, qg, qh⟩ := qc'
          cases qh
          refine iteT ⟨C.plus D, Ab, ρb, rv, ρd, Rb, qd, fun v Hd Ad ld Rd' wd => ?_⟩
          have lyd := lyb.trans ld
          have hDd := lyd.o D _ (.inr rfl) hDi pl_lst.1
          have rv' := pu_ok Rd' wd qe
          have hAd := Rd'.out D (.inr rfl)
          obtain ⟨lu, Ru⟩ := Rd'.updOut (o := .lst (acci ++ [v])) hAd (.inr rfl) hH0 hDd pl_lst
          have Ruw := Ru.wipe qf
          rw [hw3] at Ruw
          have lt : Lt C A1 H1 Ad (upd Hd D (.lst (acci ++ [v]))) := (li.trans lyd.of_plus).trans ⟨lu, fun a o z e _ => by rw [upd_ne (fun w => hA0 (by rw [← w]; exact z))]; exact e⟩
          refine ⟨acci, hDd, big_lt ?_, hlt1, Ad, ρf, acci ++ [v], dacci ++ [yv], zs', lt, (lti.trans lyd.l).trans lu, Ruw, hJ1.stay _ _ _ _ (hJ1.stay _ _ _ _ wi' lyd.l) lu, upd_same, ((rci.later lyd.l).later lu).app (.one (rv'.later lu)), hAd, qg, by rw [List.append_assoc]; exact halli⟩
          have e1 := rci.length
          have e2 := congrArg List.length halli
          have e3 := congrArg List.length hall
          simp only [List.length_append, List.length_cons] at e2 e3
          omega
      · rw [List.drop_of_length_le (by omega)] at qi
        cases qi
        refine .inl ⟨hJ1.stop Ai Hi j wi' (by omega), hlt, Ai, ρ8, acci, dacci, ys2, li, ?_, hJ.stay _ _ _ _ wc lti, hDi, rci, hAi, q10, ?_⟩
        · have Rz := Ri.wipe q9
          rw [wipe_sub hv, hw2] at Rz
          exact Rz
        · rw [List.append_nil] at halli
          rw [halli, List.append_assoc]; exact hall
  · rw [List.drop_of_length_le (by omega)] at qc
    cases qc
    refine .inl ⟨hJ.stop Ac Hc i wc (by omega), ?_⟩
    rw [List.append_nil] at hall
    subst hall
    refine k _ Hc Ac [D] (l1.trans lc) (RS.back R1 h2 lc (Rc.minus hH0)) ⟨D, acc, rfl, rfl, hc, rc⟩ (by simp) fun a m => ?_
    obtain rfl : a = D := by simpa using m
    exact ⟨hH0, hAc, hA0⟩

theorem in_keys {K : PySem.W.Frag} {cm : Cm} {i : Nat} {own : List Nat} {d : Addr} {od : Obj} {ks : List (Key × V)} {σ σ2 : L2.St} {C' : Fc} {A5 : AS} {H5 : Hp} {ρ4 ρ5 : Rho} {ds1 : List D} (hi : i ∉ own) (hv : σ[i]? = some (some (.ref d))) (hw : wipe σ2 own = wipe σ own)
    (hf : H5 d = some (.frz od (.dK ks))) (R5 : RS K cm C' A5 [] σ2 H5 ρ4) (q : iKeyP i ρ4 = some (ds1, ρ5)) (Q' : It → Hp → Prop) (hQ : ∀ J1 H6 A6 W6, Lt C' A5 H5 A6 H6 → RS K cm C' A6 [] σ2 H6 ρ5 → ItOk K cm J1 W6 ds1 → W6 A6 H6 → Q' J1 H6) : iKeys (tVar i) σ2 H5 Q' := by
  rw [iKeyP_ap, Option.map_eq_some_iff] at q
  obtain ⟨kvs, q1, q2⟩ := q
  cases q2
  obtain ⟨d', ks', e1, e2, e3, e4⟩ := kept_dic R5 (kpD_some q1)
  have e5 : σ2[i]? = some (some (.ref d)) := by
    have w1 := wipe_get σ2 i own
    have w2 := wipe_get σ i own
    rw [if_neg (fun z => hi z.1)] at w1 w2
    rw [← w1, hw, w2, hv]
  rw [e5] at e1
  cases e1
  have e6 : ks' = ks := by
    rcases e2 with e2 | ⟨o2, e2⟩
    · rw [hf] at e2; cases e2
    · rw [hf] at e2; cases e2; rfl
  subst e6
  exact ⟨_, e5, d, od, rfl, .inl ⟨ks', hf, hQ _ _ A5 _ (.refl _ _) R5 it_keys ⟨hf, e3, e4⟩⟩⟩
theorem fn_lc2K {i : Nat} {own : List (Str × Nat)} {own1 : List Nat} {scope : Scope} {is is1 : List Nat} {f : Im} {h h1 : D → Rho → Option Rho} {g g1 : Bm} {el : Em} (hc : X.calm = true) (hN : X.N.Nodup) (hi : FI X cm tg iter f) (ok : BlkOk X.N X.env.scope scope own) (hv : ∀ i ∈ own1, i ∈ own.map (·.2)) (hio : i ∉ own.map (·.2))
    (hg : ∀ (s : Shared) (H : Hp) (C : Addr) (cl : List (Str × Addr)) (fp : List Addr), FG (X.blk s H scope (compEnvC scope cl C X.env) fp) cm tg is h) (ht : ∀ (s : Shared) (H : Hp) (C : Addr) (cl : List (Str × Addr)) (fp : List Addr), FTs (X.blk s H scope (compEnvC scope cl C X.env) fp) cm ifs g)
    (hi1 : ∀ (s : Shared) (H : Hp) (C : Addr) (cl : List (Str × Addr)) (fp : List Addr), PE (X.blk s H scope (compEnvC scope cl C X.env) fp) iter1 (tVar i))
    (hg1 : ∀ (s : Shared) (H : Hp) (C : Addr) (cl : List (Str × Addr)) (fp : List Addr), FG (X.blk s H scope (compEnvC scope cl C X.env) fp) cm tg1 is1 h1) (ht1 : ∀ (s : Shared) (H : Hp) (C : Addr) (cl : List (Str × Addr)) (fp : List Addr), FTs (X.blk s H scope (compEnvC scope cl C X.env) fp) cm ifs1 g1)
    (he : ∀ (s : Shared) (H : Hp) (C : Addr) (cl : List (Str × Addr)) (fp : List Addr), FE (X.blk s H scope (compEnvC scope cl C X.env) fp) cm elt el) (hsub : ∀ i ∈ is, i ∈ own.map (·.2)) (hsub1 : ∀ i ∈ is1, i ∈ own1) (hs : ∀ x, foldedSetIterable iter X.env x = pure x := by intro _; rfl) (hs1 : ∀ env x, foldedSetIterable iter1 env x = pure x := by intro _ _; rfl) :
    FN X cm (.ListComp elt [⟨tg, iter, ifs, 0⟩, ⟨tg1, iter1, ifs1, 0⟩] scope pos) (nLc2K i (own.map (·.2)) own1 f h g h1 g1 el) :=
  ((pe_lock (pe_lc2 hc hN hi ok hv hg ht (fun s H C cl fp => pi_keys (hi1 s H C cl fp)) hg1 ht1 he hs hs1)).or (pe_lc2 hc hN hi ok hv hg ht (fun s H C cl fp => pi_keys (hi1 s H C cl fp)) hg1 ht1 he hs hs1)).imp fun σ H Q hh => by
    obtain ⟨C, A, ρ, t, ρ', R, q, k⟩ := hh
    unfold nLc2K nLc2 at q
    simp only [Option.bind_eq_some_iff] at q
    obtain ⟨kvs, q0, ⟨ds, ρ1⟩, h1, ρw, h2, ⟨all, ρ2⟩, h3, h4⟩ := q
    split at h4
    rotate_left
    · cases h4
    rename_i hbig
    cases h4
    obtain ⟨d, ks, hv0, hd, hn, hk⟩ := kept_dic R (kpD_some q0)
    rcases hd with hd | ⟨od, hd⟩
    · refine .inl ⟨d, .dK ks, hd, trivial, fun od => ?_⟩
      have s : Sw d ks H (upd H d (.frz od (.dK ks))) := ⟨.inl hd, .inr ⟨od, upd_same⟩, fun x q => upd_ne q⟩
      have R2 := R.sw (o := .frz od (.dK ks)) s hn
      refine tLc2_coreK (C := C.sw d (.frz od (.dK ks))) (A := A) hv hsub hsub1 (fun C' A5 H5 ρ4 ds1 ρ5 σ2 hw l5 R5 q5 Q' hQ => in_keys hio hv0 hw (l5.l.st _ _ upd_same pl_frz.1 hn) R5 q5 Q' hQ) (fun R' hR => ⟨C.sw d (.frz od (.dK ks)), A, ρ, ds, ρ1, R2, h1, hR⟩) hbig h2 h3 fun v H' A' F l2 R3 rt hnd hF => ?_
      have hd' : H' d = some (.frz od (.dK ks)) := l2.l.st _ _ upd_same pl_frz.1 hn
      have hn' : ¬ A' d := (l2.l.rd (.inl upd_same) hn).2
      have s' : Sw d ks H' (upd H' d (.dK ks)) := ⟨.inr ⟨od, hd'⟩, .inl upd_same, fun x q => upd_ne q⟩
      refine ⟨hd', k v _ A' F (Lt.unsw (ks := ks) hd hn (fun z => hn (R.out d z)) l2) (R3.unsw s' hn' fun x e tn np => ?_) (rt.sw s' fun m => hn' (hF d m).2.1) hnd fun a m => ⟨sw_none.mp (hF a m).1, (hF a m).2⟩⟩
      have := R.fr d x e tn np
      rw [hd] at this; cases this; rfl
    · exact .inr (tLc2_coreK (C := C) (A := A) hv hsub hsub1 (fun C' A5 H5 ρ4 ds1 ρ5 σ2 hw l5 R5 q5 Q' hQ => in_keys hio hv0 hw (l5.l.st _ _ hd pl_frz.1 hn) R5 q5 Q' hQ) (fun R' hR => ⟨C, A, ρ, ds, ρ1, R, h1, hR⟩) hbig h2 h3 fun v H' A' F l2 R3 rt hnd hF => k v H' A' F l2 R3 rt hnd hF)
end
end G

/-! La73: range(i, j, c). -/
namespace G
open PySem PySem.Spec L2
def rgC (lo c : Int) (n : Nat) : List D := (List.range n).map fun i => .int (lo + (i : Nat) * c)
def rgN (i j c : Int) : Nat := (Builtin.Range.rangeSize i j c).toNat
def rgcOk (i j c : Int) : Bool := decide (c ≠ 0) && (Nat.blt c.natAbs 1073741824 && (Builtin.Range.small i j c && decide (0 ≤ Builtin.Range.rangeSize i j c)))
def iRng3M (g : Am) : Im := fun ρ => (g ρ).bind fun p => (pus p.2 p.1).bind fun ds => match ds with
  | [.int i, .int j, .int c] => if rgcOk i j c then some (rgC i c (rgN i j c), p.2) else none
  | _ => none
@[simp] theorem iRng3M_ap (g : Am) (ρ : Rho) : iRng3M g ρ = ((g ρ).bind fun p => (pus p.2 p.1).bind fun ds => match ds with
  | [.int i, .int j, .int c] => if rgcOk i j c then some (rgC i c (rgN i j c), p.2) else none
  | _ => none) := rfl
theorem rgcOk_ok {i j c : Int} (h : rgcOk i j c = true) : RgC i j c (rgN i j c) := by
  unfold rgcOk at h
  simp only [Bool.and_eq_true, decide_eq_true_eq] at h
  obtain ⟨h1, h2, h3, h4⟩ := h
  refine ⟨h1, ?_, h3, ?_⟩
  · have := Nat.ble_eq.mp (show Nat.ble (c.natAbs + 1) 1073741824 = true from h2)
    omega
  · unfold rgN
    omega
section
variable {X : Cx} {cm : Cm} {tg a b c : Expr} {pos p : Pos}
theorem it_rgc {K : PySem.W.Frag} {lo st : Int} {n : Nat} : ItOk K cm (Itc lo st n) (fun _ _ => True) (rgC lo st n) where
  stay := fun _ _ _ _ _ _ => trivial
  go := fun _ _ i _ h' => by
    show i < n
    simpa [rgC] using h'
  yld := fun A H i x H' d _ _ e hy => by
    obtain ⟨rfl, rfl⟩ := hy
    unfold rgC at e
    simp only [List.getElem?_map, Option.map_eq_some_iff] at e
    obtain ⟨j, e1, rfl⟩ := e
    have hj : i < n := by
      have := (List.getElem?_eq_some_iff.mp e1).1
      simpa using this
    rw [List.getElem?_range hj] at e1
    cases e1; exact ⟨.refl _, .int _⟩
  stop := fun _ _ i _ h' => by
    show n ≤ i
    simpa [rgC] using h'
theorem fi_rng3 {g : Am} (hg : Gl X "range") (hm : X.mg "range" = none) (ha : FA X cm [a, b, c] g)
    (hs : starEach [a, b, c] X.env = (false, eval a X.env) :: starEach [b, c] X.env := by rfl) (hpl : (backTo pos (starEach [b, c] X.env)).any (·.1) = false := by rfl) :
    FI X cm tg (.Call (.Name "range" p) [a, b, c] [] pos) (iRng3M g) :=
  (pi_range3 hg hm ha hs hpl).imp fun σ H R ⟨C, A, ρ, ds, ρ', RS0, q, k⟩ => by
    unfold iRng3M at q
    simp only [Option.bind_eq_some_iff] at q
    obtain ⟨⟨rs, ρ1⟩, h1, es, h2, h3⟩ := q
    refine ⟨C, A, ρ, rs, ρ1, RS0, h1, fun vs H1 A1 l1 R1 w1 => ?_⟩
    have r := pus_ok R1 w1 h2
    dsimp only at h3
    split at h3
    · split at h3
      · rename_i hz
        cases h3
        cases r with
        | cons r1 r => cases r with
          | cons r2 r => cases r with
            | cons r3 r => cases r with
              | nil =>
                cases r1; cases r2; cases r3
                exact ⟨_, _, _, _, rfl, rgcOk_ok hz, k _ H1 A1 _ l1 R1 it_rgc trivial⟩
      · cases h3
    · cases h3
end
end G

/-! La74: x.bit_length(). -/
namespace G
open PySem PySem.Spec L2
def cBits : D → Option D
  | .int i => some (.int (Builtin.Int.intBits i : Nat))
  | _ => none
@[simp] theorem cBits_int (i : Int) : cBits (.int i) = some (.int (Builtin.Int.intBits i : Nat)) := rfl
section
variable {X : Cx} {cm : Cm} {pos apos : Pos} {e : Expr}
theorem fe_bits {f : Em} (h : FE X cm e f) (hbase : attributeBase e "bit_length" X.env (eval e X.env) = eval e X.env := by rfl) (hline : (apos.endLine == pos.line) = true := by rfl) :
    FE X cm (.Call (.Attribute e "bit_length" apos) [] [] pos) (eUn cBits f) := (pe_bits h hbase hline).imp fun σ H Q ⟨C, A, ρ, t, ρ', R, q, k⟩ => by
  simp only [eUn, Option.bind_eq_some_iff, Option.map_eq_some_iff] at q
  obtain ⟨⟨r, ρ1⟩, h1, d, h2, z, h3, h4⟩ := q
  cases h4
  refine ⟨C, A, ρ, r, _, R, h1, fun v H1 A1 l1 R1 w1 => ?_⟩
  have ro := rd_ok R1 w1 h2
  cases d <;> cases h3
  cases ro.int
  exact ⟨_, rfl, k _ H1 A1 l1 R1 (.int _)⟩
end
end G

/-! La75: comprehensions of two, the outer one over the items of a dict. -/
namespace G
open PySem PySem.Spec L2
section
variable {X : Cx} {cm : Cm} {pos apos cpos tpos : Pos} {elt tg1 iter1 e : Expr} {elts : List Expr} {kk : Nat} {ifs ifs1 : List Expr}
theorem fn_lc2I {i : Nat} {own : List (Str × Nat)} {own1 : List Nat} {scope : Scope} {is is1 : List Nat} {f1 : Im} {h h1 : D → Rho → Option Rho} {g g1 : Bm} {el : Em} (hc : X.calm = true) (hN : X.N.Nodup) (ho : PE X e (tVar i)) (ok : BlkOk X.N X.env.scope scope own) (hv : ∀ i ∈ own1, i ∈ own.map (·.2))
    (hg : ∀ (s : Shared) (H : Hp) (C : Addr) (cl : List (Str × Addr)) (fp : List Addr), FG (X.blk s H scope (compEnvC scope cl C X.env) fp) cm (.Tuple elts kk tpos) is h) (ht : ∀ (s : Shared) (H : Hp) (C : Addr) (cl : List (Str × Addr)) (fp : List Addr), FTs (X.blk s H scope (compEnvC scope cl C X.env) fp) cm ifs g)
    (hi1 : ∀ (s : Shared) (H : Hp) (C : Addr) (cl : List (Str × Addr)) (fp : List Addr), FI (X.blk s H scope (compEnvC scope cl C X.env) fp) cm tg1 iter1 f1)
    (hg1 : ∀ (s : Shared) (H : Hp) (C : Addr) (cl : List (Str × Addr)) (fp : List Addr), FG (X.blk s H scope (compEnvC scope cl C X.env) fp) cm tg1 is1 h1) (ht1 : ∀ (s : Shared) (H : Hp) (C : Addr) (cl : List (Str × Addr)) (fp : List Addr), FTs (X.blk s H scope (compEnvC scope cl C X.env) fp) cm ifs1 g1)
    (he : ∀ (s : Shared) (H : Hp) (C : Addr) (cl : List (Str × Addr)) (fp : List Addr), FE (X.blk s H scope (compEnvC scope cl C X.env) fp) cm elt el) (hsub : ∀ i ∈ is, i ∈ own.map (·.2)) (hsub1 : ∀ i ∈ is1, i ∈ own1)
    (hbase : attributeBase e "items" X.env (eval e X.env) = eval e X.env := by rfl) (hline : (apos.endLine == cpos.line) = true := by rfl) (hs : ∀ x, foldedSetIterable (.Call (.Attribute e "items" apos) [] [] cpos) X.env x = pure x := by intro _; rfl) (hs1 : ∀ env x, foldedSetIterable iter1 env x = pure x := by intro _ _; rfl) :
    FN X cm (.ListComp elt [⟨.Tuple elts kk tpos, .Call (.Attribute e "items" apos) [] [] cpos, ifs, 0⟩, ⟨tg1, iter1, ifs1, 0⟩] scope pos) (nLc2 (own.map (·.2)) own1 (iItm i) h g f1 h1 g1 el) :=
  ((pe_lock (pe_lc2 hc hN (pi_items ho hbase hline) ok hv hg ht hi1 hg1 ht1 he hs hs1)).or (pe_lc2 hc hN (pi_items ho hbase hline) ok hv hg ht hi1 hg1 ht1 he hs hs1)).imp fun σ H Q ⟨C, A, ρ, t, ρ', R, q, k⟩ => by
    unfold nLc2 iItm at q
    simp only [Option.bind_eq_some_iff, Option.map_eq_some_iff] at q
    obtain ⟨⟨ds, ρ1⟩, ⟨⟨kvs, ρ1'⟩, h0, h0'⟩, ρw, h2, ⟨all, ρ2⟩, h3, h4⟩ := q
    cases h0'
    dsimp only at h2 h3 h4
    split at h4
    rotate_left
    · cases h4
    rename_i hbig
    cases h4
    obtain ⟨A1, d, ks, l1, R1, hv0, hd, hn, hk⟩ := dicS_ok R h0
    rcases hd with hd | ⟨od, hd⟩
    · refine .inl ⟨d, .dK ks, hd, trivial, fun od => ?_⟩
      have s : Sw d ks H (upd H d (.frz od (.dK ks))) := ⟨.inl hd, .inr ⟨od, upd_same⟩, fun x q => upd_ne q⟩
      have R2 := R1.sw (o := .frz od (.dK ks)) s hn
      refine tLc2_core (C := C.sw d (.frz od (.dK ks))) (A := A1) hv hsub hsub1 (fun R' hR => ⟨_, hv0, d, od, ks, rfl, upd_same, hR _ _ A1 _ (.refl _ _) R2 it_items ⟨upd_same, hn, hk.sw s⟩⟩) hbig h2 h3 fun v H' A' F l2 R3 rt hnd hF => ?_
      have hd' : H' d = some (.frz od (.dK ks)) := l2.l.st _ _ upd_same pl_frz.1 hn
      have hn' : ¬ A' d := (l2.l.rd (.inl upd_same) hn).2
      have s' : Sw d ks H' (upd H' d (.dK ks)) := ⟨.inr ⟨od, hd'⟩, .inl upd_same, fun x q => upd_ne q⟩
      refine ⟨hd', k v _ A' F (l1.trans (Lt.unsw (ks := ks) hd hn (fun z => hn (R1.out d z)) l2)) (R3.unsw s' hn' fun x e tn np => ?_) (rt.sw s' fun m => hn' (hF d m).2.1) hnd fun a m => ⟨sw_none.mp (hF a m).1, (hF a m).2⟩⟩
      have := R1.fr d x e tn np
      rw [hd] at this; cases this; rfl
    · exact .inr (tLc2_core (C := C) (A := A1) hv hsub hsub1 (fun R' hR => ⟨_, hv0, d, od, ks, rfl, hd, hR _ _ A1 _ (.refl _ _) R1 it_items ⟨hd, hn, hk⟩⟩) hbig h2 h3 fun v H' A' F l2 R3 rt hnd hF => k v H' A' F (l1.trans l2) R3 rt hnd hF)
end
end G

/-! La76: classes: instances made, their fields read, methods called; self.f = e of one's own instance (plain fields). -/
namespace G
open PySem PySem.Spec L2

def lkF (f : Str) : List (Str × D) → Option D
  | [] => none
  | (g, d) :: r => if f = g then some d else lkF f r
def putT (f : Str) (d : D) : List (Str × T) → List (Str × T)
  | [] => [(f, .p d)]
  | (g, t) :: r => if g = f then (g, .p d) :: r else (g, t) :: putT f d r
/-- the fields of an instance of the class c -/
def rdO (c : Nat) (ρ : Rho) : RV → Option (List (Str × D))
  | .val (.obj c' fs) => if c' = c then some fs else none
  | .val _ => none
  | .ref i => match ρ[i]?.bind Sl.t with
    | some (.p (.obj c' fs)) => if c' = c then some fs else none
    | some (.ob c' fs) => if c' = c ∧ pureF fs = true then some (T.ds fs) else none
    | _ => none
section
variable {K : PySem.W.Frag} {cm : Cm} {A A' : AS} {H H' : Hp} {C : Fc} {σ : L2.St} {ρ ρ' : Rho} {Y : List Addr}
theorem RpF.look {f : Str} : ∀ {gs : List (Str × V)} {fs : List (Str × D)} {d : D}, RpF K cm A H gs fs → lkF f fs = some d → ∃ v, gs.lookup f = some v ∧ Rp K cm A H v d
  | _, _, _, .nil, e => by cases e
  | _, _, _, .cons (f := g) (v := v) h r, e => by
    unfold lkF at e
    by_cases q : f = g
    · rw [if_pos q] at e; cases e
      exact ⟨v, by rw [List.lookup_cons, beq_iff_eq.mpr q], h⟩
    · rw [if_neg q] at e
      obtain ⟨v', h1, h2⟩ := r.look e
      exact ⟨v', by rw [List.lookup_cons, beq_eq_false_iff_ne.mpr q]; exact h1, h2⟩
theorem RpF.look0 {f : Str} : ∀ {gs : List (Str × V)} {fs : List (Str × D)}, RpF K cm A H gs fs → lkF f fs = none → gs.lookup f = none
  | _, _, .nil, e => rfl
  | _, _, .cons (f := g) h r, e => by
    unfold lkF at e
    by_cases q : f = g
    · rw [if_pos q] at e; cases e
    · rw [if_neg q] at e
      rw [List.lookup_cons, beq_eq_false_iff_ne.mpr q]
      exact r.look0 e
theorem rdO_ok {c : Nat} {v : V} {r : RV} {fs : List (Str × D)} (R : RS K cm C A [] σ H ρ) (h : RRV K cm A H σ v r) (e : rdO c ρ r = some fs) : ∃ a dx gs, v = .ref a ∧ H a = some (.ins (cm.c c) dx gs) ∧ RpF K cm A H gs fs := by
  cases r with
  | val d =>
    cases d with
    | obj c' fs' =>
      replace e : (if c' = c then some fs' else none) = some fs := e
      by_cases q : c' = c
      · rw [if_pos q] at e
        subst q; cases e
        cases h with
        | obj h n r => exact ⟨_, _, _, rfl, h, r⟩
      · rw [if_neg q] at e; cases e
    | _ => cases e
  | ref i =>
    simp only [rdO] at e
    cases q : ρ[i]?.bind Sl.t with
    | none => rw [q] at e; cases e
    | some t =>
      rw [q] at e
      obtain ⟨F, rt⟩ := slot_of R q h
      cases t with
      | p d =>
        cases d with
        | obj c' fs' =>
          dsimp only at e
          split at e
          · rename_i q
            subst q; cases e
            cases rt.2 with
            | obj h n r => exact ⟨_, _, _, rfl, h, r⟩
          · cases e
        | _ => cases e
      | ob c' fs' =>
        dsimp only at e
        split at e
        · rename_i q
          obtain ⟨q, pq⟩ := q
          subst q; cases e
          obtain ⟨a, dx, gs, F', e1, _, e2, r⟩ := rt
          exact ⟨a, dx, gs, e1, e2, (r.pure0 pq).2⟩
        · cases e
      | _ => cases e
theorem RTs.putP {f : Str} {v : V} {d : D} (hd : Rp K cm A H v d) : ∀ {gs : List (Str × V)} {fs : List (Str × T)}, RTs K cm A H gs fs [] → pureF fs = true → RTs K cm A H (putF f v gs) (putT f d fs) [] ∧ pureF (putT f d fs) = true
  | gs, [], h, _ => by
    obtain ⟨rfl, _⟩ := h
    exact ⟨⟨v, [], [], [], rfl, rfl, ⟨rfl, hd⟩, rfl, rfl⟩, rfl⟩
  | gs, (g, .p d') :: r, h, e => by
    obtain ⟨v', gs', F1, F2, rfl, eF, h1, h2⟩ := h
    obtain ⟨rfl, rfl⟩ := List.append_eq_nil_iff.mp eF.symm
    have e' : pureF r = true := by simpa [pureF] using e
    by_cases q : g = f
    · rw [show putF f v ((g, v') :: gs') = if g = f then (g, v) :: gs' else (g, v') :: putF f v gs' from rfl, if_pos q, show putT f d ((g, .p d') :: r) = if g = f then (g, .p d) :: r else (g, .p d') :: putT f d r from rfl, if_pos q]
      exact ⟨⟨v, gs', [], [], rfl, rfl, ⟨rfl, hd⟩, h2⟩, by simpa [pureF] using e'⟩
    · rw [show putF f v ((g, v') :: gs') = if g = f then (g, v) :: gs' else (g, v') :: putF f v gs' from rfl, if_neg q, show putT f d ((g, .p d') :: r) = if g = f then (g, .p d) :: r else (g, .p d') :: putT f d r from rfl, if_neg q]
      obtain ⟨x, y⟩ := RTs.putP hd h2 e'
      exact ⟨⟨v', _, [], [], rfl, rfl, h1, x⟩, by simpa [pureF] using y⟩
  | gs, (g, .ls _) :: r, _, e => by simp [pureF] at e
  | gs, (g, .di _) :: r, _, e => by simp [pureF] at e
  | gs, (g, .dt _) :: r, _, e => by simp [pureF] at e
  | gs, (g, .ob _ _) :: r, _, e => by simp [pureF] at e
theorem RTs.len : ∀ {gs : List (Str × V)} {fs : List (Str × T)} {F : List Addr}, RTs K cm A H gs fs F → gs.length = fs.length
  | gs, [], F, h => by obtain ⟨rfl, _⟩ := h; rfl
  | gs, (f, t) :: r, F, h => by
    obtain ⟨v, gs', F1, F2, rfl, rfl, h1, h2⟩ := h
    simp [RTs.len h2]
end

/-! ### e.f -/
def eFld (c : Nat) (f : Str) (g : Em) : Em := fun ρ => (g ρ).bind fun p => (rdO c p.2 p.1).bind fun fs => (lkF f fs).map fun d => (.val d, p.2)
section
variable {X : Cx} {cm : Cm} {pos pos' p : Pos} {e o : Expr} {es : List Expr}
theorem fe_fld {c : Nat} {f : Str} {g : Em} (he : FE X cm e g) (hc : Cls X.K (cm.c c)) (hn : NoAttr X.K (cm.c c) f) (hb : attributeBase e f X.env (eval e X.env) = eval e X.env := by rfl) : FE X cm (.Attribute e f pos) (eFld c f g) :=
  (pe_fld he hb).imp fun σ H Q ⟨C, A, ρ, t, ρ', R, q, k⟩ => by
    simp only [eFld, Option.bind_eq_some_iff, Option.map_eq_some_iff] at q
    obtain ⟨⟨r, ρ1⟩, h1, fs, h2, d, h3, h4⟩ := q
    cases h4
    refine ⟨C, A, ρ, r, ρ1, R, h1, fun v H1 A1 l1 R1 w1 => ?_⟩
    obtain ⟨a, dx, gs, rfl, ea, rf⟩ := rdO_ok R1 w1 h2
    obtain ⟨v, l, rv⟩ := rf.look h3
    exact ⟨a, cm.c c, dx, gs, v, rfl, ea, hc, hn, l, k v H1 A1 l1 R1 rv⟩
/-- self.f = e -/
def sFldM (i c : Nat) (f : Str) (g : Rho → Option (T × Rho)) : Sm := fun ρ => (g ρ).bind fun p => match p.2[i]? with
  | some s => (match s.t with
    | some (.ob c' fs) => if c' = c ∧ pureF fs = true ∧ fs.length < 1000 then some (.nx (p.2.set i (s.w (.ob c (putT f p.1.d fs))))) else none
    | _ => none)
  | none => none
theorem fs_fld {i c : Nat} {f : Str} {g : Rho → Option (T × Rho)} (ho : PE X o (tVar i)) (hv : FN X cm e g) (hc : Cls X.K (cm.c c)) (hn : NoAttr X.K (cm.c c) f) (hs : swapsWith e (some (.Attribute o f pos')) pos.line X.env = pure false := by rfl) :
    FS X cm (.Assign [.Attribute o f pos'] e pos) (sFldM i c f g) := (ps_fld ho hv hs).imp fun D σ H ⟨C, A, ρ, o', R, q, k⟩ => by
  simp only [sFldM, Option.bind_eq_some_iff] at q
  obtain ⟨⟨t, ρ1⟩, h1, q⟩ := q
  refine ⟨C, A, ρ, t, ρ1, R, h1, fun v H1 A1 F l1 R1 rt hnd hF => ?_⟩
  dsimp only at q
  split at q
  rotate_left
  · cases q
  rename_i s hs
  split at q
  rotate_left
  · cases q
  rename_i c' fs ht
  split at q
  rotate_left
  · cases q
  rename_i hq
  obtain ⟨hc', hp, hl⟩ := hq
  subst hc'
  cases q
  have R2 := R1.drop fun a m => (hF a m).2.2
  have lt : Later A1 H1 (fun a => A1 a ∧ a ∉ F) H1 := (Later.refl A1 H1).less fun a z => z.1
  have rp := rt.frz lt fun a m z => z.2 m
  obtain ⟨l, e1, rto, hA, kk⟩ := R2.root hs ht hp
  obtain ⟨a, dx, gs, F', z, eF, e2, rts⟩ := rto
  cases z
  obtain rfl : F' = [] := by simpa using eF.symm
  refine ⟨_, e1, l, cm.c c', dx, gs, rfl, e2, hc, hn, by rw [rts.len]; exact hl, ?_⟩
  obtain ⟨x, y⟩ := rts.putP (f := f) rp hp
  have lt2 : Later (fun a => A1 a ∧ a ∉ F) H1 (fun a => A1 a ∧ a ∉ F) (upd H1 l (.ins (cm.c c') dx (putF f v gs))) := ⟨fun a u e _ n => by rw [upd_ne (fun z => n (by rw [z]; exact hA))]; exact e, fun a z => .inl z, fun a q => by
    by_cases e : a = l
    · rw [e, upd_same]; exact fun z => nomatch z
    · rw [upd_ne e]; exact q⟩
  obtain ⟨R3, l3⟩ := kk (.ins (cm.c c') dx (putF f v gs)) (.ob c' (putT f t.d fs)) ⟨l, dx, _, [], rfl, rfl, upd_same, x.later lt2 fun a m => nomatch m⟩
  have l2 : Lt C A1 H1 (fun a => A1 a ∧ a ∉ F) H1 := (Lt.refl A1 H1).less fun a z => z.1
  exact k σ _ _ ((l1.trans l2).trans l3) R3

/-! ### methods -/
/-- a method that stands -/
def Mg (P : Program) (w : World) (K : PySem.W.Frag) (mg : Str → Option Value) (base : Heap) (C : Addr) (k : Nat) (cm : Cm) (m : Str) (ps : List Str) (g : Rho → Option (T × Rho)) : Prop :=
  ∃ f fd, FnG P w K mg base cm k f fd ps g ∧ Meth K C m f ∧ Binds K fd ps []
def nMeth (c : Nat) (m : Str) (n : Nat) (f : Rho → Option (T × Rho)) (o : Em) (g : Am) : Rho → Option (T × Rho) := fun ρ => (o ρ).bind fun p => (pu p.2 p.1).bind fun d => match d with
  | .obj c' fs => if c' = c ∧ (lkF m fs).isNone = true then (g p.2).bind fun q => (pus q.2 q.1).bind fun ds => if ds.length + 1 = n then (f (slP (.obj c' fs :: ds))).map fun r => (r.1, q.2) else none else none
  | _ => none
theorem tN_meth {c : Nat} {m : Str} {n : Nat} {f : Rho → Option (T × Rho)} {oe : Em} {g : Am} {σ : L2.St} {H : Hp} {Q : VK} {E : XK} (h : tN X.K cm (nMeth c m n f oe g) σ H Q) : tMeth (cm.c c) m (spG X.K cm n f) [] E (tE X.K cm oe) (tAs X.K cm g) σ H Q := by
  obtain ⟨C, A, ρ, t, ρ', R, q, kk⟩ := h
  simp only [nMeth, Option.bind_eq_some_iff] at q
  obtain ⟨⟨r, ρ1⟩, h1, d, h2, q⟩ := q
  dsimp only at q
  split at q
  rotate_left
  · cases q
  rename_i c' fs
  split at q
  rotate_left
  · cases q
  rename_i hq
  obtain ⟨hc, hl⟩ := hq
  subst hc
  simp only [Option.bind_eq_some_iff] at q
  obtain ⟨⟨rs, ρ2⟩, h3, ds, h4, q⟩ := q
  dsimp only at q
  split at q
  rotate_left
  · cases q
  rename_i hn
  rw [Option.map_eq_some_iff] at q
  obtain ⟨⟨t', ss'⟩, h5, h6⟩ := q
  cases h6
  refine ⟨C, A, ρ, r, ρ1, R, h1, fun v H1 A1 l1 R1 w1 => ?_⟩
  have ro := pu_ok R1 w1 h2
  cases ro with
  | obj ha hA rf =>
    refine ⟨_, _, _, rfl, ha, rf.look0 (Option.isNone_iff_eq_none.mp hl), C, A1, ρ1, rs, _, R1, h3, fun vs H2 A2 l2 R2 w2 => ?_⟩
    show spG X.K cm n f (.ref _ :: (vs ++ [])) H2 Q E
    rw [List.append_nil]
    have ro' : Rp X.K cm A2 H2 _ _ := (Rp.obj ha hA rf).later l2.l
    exact spG_of R2 (.cons ro' (pus_ok R2 w2 h4)) (by simpa using hn) h5 fun v H' A' F l' R' rt hnd hF => kk v H' A' F ((l1.trans l2).trans l') R' rt hnd hF
theorem fn_meth {c k j : Nat} {m : Str} {ps : List Str} {n : Nat} {f : Rho → Option (T × Rho)} {oe : Em} {g : Am} {apos : Pos} {pl : Sem Bool} (M : Mg X.prog X.w X.K X.mg X.base (cm.c c) k cm m ps f) (hc : Cls X.K (cm.c c)) (hr : Room j X.A) (hk : k ≤ j) (he : FE X cm o oe) (ha : FA X cm (e :: es) g) (hn : ps.length = n := by rfl)
    (hst : starEach (e :: es) X.env = (false, eval e X.env) :: starEach es X.env := by rfl) (hpl : (backTo pos (starEach es X.env)).any (·.1) = false := by rfl)
    (ht : eval (.Call (.Attribute o m apos) (e :: es) [] pos) X.env = (do
      let ov ← eval o X.env
      standAt apos.atName
      let (f, first) ← holding [ov] (getMethod ov m pl)
      callWith pos f first (backTo pos (starEach (e :: es) X.env)) (backToKw pos (keywordEach [] X.env))) := by rfl) :
    FN X cm (.Call (.Attribute o m apos) (e :: es) [] pos) (nMeth c m n f oe g) := by
  subst hn
  obtain ⟨a, fd, F, hm, hb⟩ := M
  exact (pe_meth (pl := pl) he hc hm F (hr.mono hk) hb .nil pass0 ha hst hpl ht).imp fun σ H Q q => tN_meth q
theorem fn_meth0 {c k j : Nat} {m : Str} {ps : List Str} {n : Nat} {f : Rho → Option (T × Rho)} {oe : Em} {apos : Pos} {pl : Sem Bool} (M : Mg X.prog X.w X.K X.mg X.base (cm.c c) k cm m ps f) (hc : Cls X.K (cm.c c)) (hr : Room j X.A) (hk : k ≤ j) (he : FE X cm o oe) (hn : ps.length = n := by rfl)
    (ht : eval (.Call (.Attribute o m apos) [] [] pos) X.env = (do
      let ov ← eval o X.env
      standAt apos.atName
      let (f, first) ← holding [ov] (getMethod ov m pl)
      callWith pos f first (backTo pos (starEach [] X.env)) (backToKw pos (keywordEach [] X.env))) := by rfl) :
    FN X cm (.Call (.Attribute o m apos) [] [] pos) (nMeth c m n f oe aNil) := by
  subst hn
  obtain ⟨a, fd, F, hm, hb⟩ := M
  refine (pe_meth0 (pl := pl) he hc hm F (hr.mono hk) hb .nil pass0 ht).imp fun σ H Q q => ?_
  obtain ⟨C, A, ρ, r, ρ1, R, h1, kk⟩ := tN_meth (E := E0) q
  refine ⟨C, A, ρ, r, ρ1, R, h1, fun v H1 A1 l1 R1 w1 => ?_⟩
  obtain ⟨a, dx, fs, e1, e2, e3, C', A', ρ', rs, ρ2, R', h2, k2⟩ := kk v H1 A1 l1 R1 w1
  refine ⟨a, dx, fs, e1, e2, e3, ?_⟩
  cases h2
  exact k2 [] H1 A' (.refl A' H1) R' .nil
end
end G

/-! La77: an instance made by its class (__init__ with plain arguments); d.update(a fresh dict). -/
namespace G
open PySem PySem.Spec L2 PyProof.Rows

section
variable {K : PySem.W.Frag} {cm : Cm} {A A' : AS} {H H' : Hp} {C : Fc} {σ : L2.St} {ρ ρ' : Rho} {F0 : List Addr}
/-- as afterF; what was handed over is still in no slot -/
theorem RS.afterG {σ' : L2.St} {ss : Rho} {vs : List V} {F : List Addr} (R : RS K cm C A F0 σ H ρ) (hF0 : ∀ a ∈ F0, C.H0 a = none ∧ A a ∧ ¬ C.A0 a) (l : Lt (cIn H (fun a => a ∈ F0) A vs) A H A' H') (R' : RS K cm (cIn H (fun a => a ∈ F0) A vs) A' F σ' H' ss)
    (hF : ∀ a ∈ F, H a = none ∧ A' a ∧ ¬ (cIn H (fun a => a ∈ F0) A vs).A0 a) : Lt C A H A' H' ∧ RS K cm C A' (F0 ++ F) σ H' ρ := by
  have kept : ∀ a o, A a → a ∉ F0 → H a = some o → NT o → H' a = some o := fun a o z n e t => l.o a o ⟨z, n⟩ e t
  have inA : ∀ a, A a → a ∉ F0 → A' a := fun a z n => R'.out a ⟨z, n⟩
  have nF0 : ∀ a, C.A0 a → a ∉ F0 := fun a z m => (hF0 a m).2.2 z
  refine ⟨⟨l.l, fun a o z e t => kept a o (R.out a z) (nF0 a z) e t⟩, ?_⟩
  obtain ⟨Fs, h1, h2, h3, h4, h5⟩ := R.sl
  refine ⟨R.len, ⟨Fs, h1, h2, fun i a m => ⟨inA a (h3 i a m).1 (h3 i a m).2.2, (h3 i a m).2.1, fun z => (List.mem_append.mp z).elim (h3 i a m).2.2 fun z => R.dom a (h3 i a m).1 (hF a z).1⟩, h4, fun i s e => ?_⟩, fun a z => inA a (R.out a z) (nF0 a z), fun a z => ?_, R'.dom, fun a o e t n => R'.fr a o (R.fr a o e t n) t (fun m => ?_), fun a z => R'.fd a (R.fd a z), R'.tb, R'.ne⟩
  · obtain ⟨o, e1, r⟩ := h5 i s e
    exact ⟨o, e1, r.keep l.l fun a m o q t => kept a o (h3 i a m).1 (h3 i a m).2.2 q t⟩
  · rcases R'.sub a z with q | q | q
    · exact R.sub a q.1
    · exact .inr (.inr (hF0 a q).1)
    · exact .inr (.inr (R.new0 q))
  · rw [(hF0 a m).1] at e; cases e
end
/-- an __init__ that stands, and its class at a name -/
def Mi (P : Program) (w : World) (K : PySem.W.Frag) (mg : Str → Option Value) (base : Heap) (C : Addr) (k : Nat) (cm : Cm) (x : Str) (ps : List Str) (g : Rho → Option (T × Rho)) : Prop :=
  ∃ f fd, FnG P w K mg base cm k f fd ps g ∧ Mk K C f ∧ mg x = some (.ref C) ∧ Binds K fd ps []
def madeO (c : Nat) : T × Rho → Option T
  | (.p .non, .pin (.ob c' fs) :: _) => if c' = c ∧ pureF fs = true then some (.ob c fs) else none
  | _ => none
def nMakeO (c : Nat) (n : Nat) (f : Rho → Option (T × Rho)) (g : Am) : Rho → Option (T × Rho) := fun ρ => (g ρ).bind fun p => (pus p.2 p.1).bind fun ds => if ds.length + 1 = n then (f (.pin (.ob c []) :: slP ds)).bind fun r => (madeO c r).map fun t => (t, p.2) else none
section
variable {X : Cx} {cm : Cm} {pos p : Pos} {e o : Expr} {es : List Expr}
theorem tN_make {c n : Nat} {f : Rho → Option (T × Rho)} {g : Am} {σ : L2.St} {H : Hp} {Q : VK} {E : XK} (h : tN X.K cm (nMakeO c n f g) σ H Q) : tMake (cm.c c) (spG X.K cm n f) [] E (tAs X.K cm g) σ H Q := by
  obtain ⟨C, A, ρ, t, ρ', R, q, kk⟩ := h
  simp only [nMakeO, Option.bind_eq_some_iff] at q
  obtain ⟨⟨rs, ρ1⟩, h1, ds, h2, q⟩ := q
  dsimp only at q
  split at q
  rotate_left
  · cases q
  rename_i hn
  simp only [Option.bind_eq_some_iff, Option.map_eq_some_iff] at q
  obtain ⟨⟨t', ss'⟩, h3, t2, h4, h5⟩ := q
  cases h5
  refine ⟨C, A, ρ, rs, _, R, h1, fun vs H1 A1 l1 R1 w1 x dx nx ndx nex => ?_⟩
  rw [List.append_nil]
  have rl := pus_ok R1 w1 h2
  have R2 := R1.grow (same_new (o := .own x) ndx)
  have nx2 : upd H1 dx (.own x) x = none := by rw [upd_ne (Ne.symm nex)]; exact nx
  obtain ⟨l3, R3, hF3⟩ := own1 (o := .ins (cm.c c) dx []) R2 nx2
  have g1 : Same H1 (upd (upd H1 dx (.own x)) x (.ins (cm.c c) dx [])) := fun b o e => (same_new nx2) b o ((same_new ndx) b o e)
  have l13 : Lt C A1 H1 (fun a => A1 a ∨ a = x) (upd (upd H1 dx (.own x)) x (.ins (cm.c c) dx [])) := (Lt.same (same_new ndx)).trans l3
  have rt0 : RT X.K cm (fun a => A1 a ∨ a = x) (upd (upd H1 dx (.own x)) x (.ins (cm.c c) dx [])) (.ref x) (.ob c []) [x] := by
    refine ⟨x, dx, [], [], rfl, rfl, upd_same, ?_⟩
    exact ⟨rfl, rfl⟩
  have nd : [x].Nodup := List.nodup_cons.mpr ⟨fun z => (nomatch z), List.nodup_nil⟩
  refine ⟨by rw [List.length_cons, rl.length]; exact hn, _, _, _, t', ss', R3.argFs rt0 nd hF3 (rl.later l13.l), h3, fun v H' A' F σ' lt R' rt hnd hF => ?_⟩
  obtain ⟨l4, R4⟩ := R3.afterG hF3 lt R' hF
  unfold madeO at h4
  split at h4
  rotate_left
  · cases h4
  rename_i c' fs ss heq
  cases heq
  split at h4
  rotate_left
  · cases h4
  rename_i hq
  obtain ⟨hc, hp⟩ := hq
  subst hc
  cases h4
  obtain ⟨rfl, rv⟩ := rt
  cases rv
  refine ⟨rfl, ?_⟩
  obtain ⟨Gs, k1, k2, k3, k4, k5⟩ := R'.sl
  obtain ⟨o', q1, v', q2, q3, rt', _⟩ := k5 0 _ rfl
  have hv' : v' = .ref x := by
    have : (cIn (upd (upd H1 dx (.own x)) x (.ins (cm.c c') dx [])) (fun a => a ∈ [x]) (fun a => A1 a ∨ a = x) (.ref x :: vs)).pv 0 = some (.ref x) := rfl
    rw [this] at q3; cases q3; rfl
  subst hv'
  obtain ⟨l', e, hG⟩ := rt'.root1 (show T.root (.ob c' fs) = true from hp)
  cases e
  rw [hG] at rt'
  have hx := k3 0 x (by rw [hG]; simp)
  refine kk (.ref x) H' A' [x] ((l1.trans l13).trans l4) (by simpa using R4) rt' nd fun a m => ?_
  obtain rfl : a = x := by simpa using m
  exact ⟨(hF3 a (by simp)).1, hx.1, (hF3 a (by simp)).2.2⟩
theorem fn_make {c k j : Nat} {x : Str} {ps : List Str} {n : Nat} {f : Rho → Option (T × Rho)} {g : Am} (M : Mi X.prog X.w X.K X.mg X.base (cm.c c) k cm x ps f) (hr : Room j X.A) (hk : k + 1 ≤ j) (hg : Gl X x) (ha : FA X cm (e :: es) g) (hn : ps.length = n := by rfl)
    (hdb : (x == ("__debug__" : Str)) = false := by decide) (he : starEach (e :: es) X.env = (false, eval e X.env) :: starEach es X.env := by rfl) (hpl : (backTo pos (starEach es X.env)).any (·.1) = false := by rfl) :
    FN X cm (.Call (.Name x p) (e :: es) [] pos) (nMakeO c n f g) := by
  subst hn
  obtain ⟨a, fd, F, M, hm, hb⟩ := M
  exact (pe_make M F (hr.mono hk) hg hm hb .nil pass0 ha hdb he hpl).imp fun σ H Q q => tN_make q
end

/-! ### methods and __init__ as the top wrote them -/
structure Dm (K : PySem.W.Frag) (C : Addr) (m qual : Str) (st : Stmt) (ps : List Str) (f : Addr) (fd : FuncData) : Prop where
  F : Fun K m qual st f fd
  M : Meth K C m f
  bb : ∀ us : List Value, us.length = ps.length → bindArgs fd ⟨us, []⟩ = pure (ps.zip us)
structure Di (K : PySem.W.Frag) (mg : Str → Option Value) (C : Addr) (x qual : Str) (st : Stmt) (ps : List Str) (f : Addr) (fd : FuncData) : Prop where
  F : Fun K "__init__" qual st f fd
  M : Mk K C f
  m : mg x = some (.ref C)
  bb : ∀ us : List Value, us.length = ps.length → bindArgs fd ⟨us, []⟩ = pure (ps.zip us)
section
variable {P : Program} {w : World} {K : PySem.W.Frag} {mg : Str → Option Value} {base : Heap} {cm : Cm}
theorem Dm.mk' {C : Addr} {m qual : Str} {st : Stmt} {ps : List Str} {f : Addr} {fd : FuncData} {k : Nat} {g : Rho → Option (T × Rho)} (D : Dm K C m qual st ps f fd) (G : FnG P w K mg base cm k f fd ps g) : Mg P w K mg base C k cm m ps g := ⟨f, fd, G, D.M, .all D.bb⟩
theorem Di.mk' {C : Addr} {x qual : Str} {st : Stmt} {ps : List Str} {f : Addr} {fd : FuncData} {k : Nat} {g : Rho → Option (T × Rho)} (D : Di K mg C x qual st ps f fd) (G : FnG P w K mg base cm k f fd ps g) : Mi P w K mg base C k cm x ps g := ⟨f, fd, G, D.M, D.m, .all D.bb⟩
theorem dm_mk {C : Addr} {x qual : Str} {st : Stmt} {ps : List Str} {f : Addr} {oc : Value} {od an : Option Addr} {osl : Array (Option Value)} {kV doc pm cdv ct : Value}
    (a : PySem.W.findIn K (.ref C) x = some (some (.ref f))) (i : PySem.W.isFn K (.ref f) = true) (l : K.lookup f = some ⟨oc, od, .func (PySem.W.fnOf x qual (defArgs st) (defBody st) (defScope st) .none kV doc pm an cdv ct), osl⟩) (c : PySem.W.codeIn K cdv qual = true) (k : PySem.W.keepIn K (.ref f) = true)
    (b : ∀ (kV doc pm : Value) (an : Option Addr) (cdv ct : Value) (us : List Value), us.length = ps.length → bindArgs (PySem.W.fnOf x qual (defArgs st) (defBody st) (defScope st) .none kV doc pm an cdv ct) ⟨us, []⟩ = pure (ps.zip us)) :
    ∃ f fd, Dm K C x qual st ps f fd := ⟨f, _, fun_mk l c k, ⟨a, i, k⟩, b _ _ _ _ _ _⟩
theorem di_mk {C : Addr} {x qual : Str} {st : Stmt} {ps : List Str} {f : Addr} {oc : Value} {od an : Option Addr} {osl : Array (Option Value)} {kV doc pm cdv ct : Value} (hm : mg x = some (.ref C)) (mk : PySem.W.makesIn K C = true) (kc : PySem.W.keepIn K (.ref C) = true)
    (a : PySem.W.findIn K (.ref C) "__init__" = some (some (.ref f))) (i : PySem.W.isFn K (.ref f) = true) (l : K.lookup f = some ⟨oc, od, .func (PySem.W.fnOf "__init__" qual (defArgs st) (defBody st) (defScope st) .none kV doc pm an cdv ct), osl⟩) (c : PySem.W.codeIn K cdv qual = true) (k : PySem.W.keepIn K (.ref f) = true)
    (b : ∀ (kV doc pm : Value) (an : Option Addr) (cdv ct : Value) (us : List Value), us.length = ps.length → bindArgs (PySem.W.fnOf "__init__" qual (defArgs st) (defBody st) (defScope st) .none kV doc pm an cdv ct) ⟨us, []⟩ = pure (ps.zip us)) :
    ∃ f fd, Di K mg C x qual st ps f fd := ⟨f, _, fun_mk l c k, ⟨mk, a, i, kc⟩, hm, b _ _ _ _ _ _⟩
end

/-! ### d.update(other) -/
section
variable {X : Cx} {pins : List (Addr × Obj)} {σ : L2.St} {H : Hp} {s : Shared} {a b : Addr} {kvs more : List (Key × V)} {A : Around} {E : Value → Shared → Prop}
theorem d_update {Q : Value → Shared → Prop} (I : Inv X pins σ H s) (e : H a = some (.dK kvs)) (e2 : Rd H b (.dK more)) (hab : a ≠ b) (hl : kvs.length + more.length ≤ sizeLine) (h : ∀ s', Inv X pins σ (upd H a (.dK (mergeK kvs more))) s' → Q .none s') :
    wpAny (model X.prog X.w) A (call (.builtin "dict.update") [.ref a, .ref b]) Q E s := by
  obtain ⟨z, hd, vs, rel, dd⟩ := dk_of I.hok e
  obtain ⟨z2, hd2, vs2, rel2, dd2⟩ := dk_rd I.hok e2
  refine call_meetsIn PySem.F.slot_dict_update dd.typeIs PySem.F.entry_dict_update (PySem.F.args_dict_update_2 _ _) (meets_dict_update (mixKind X.prog X.w) a b hab hd2) ⟨vs, vs2, dd, dd2, by rw [← rel.length, ← rel2.length]; exact hl, fun h' dd' _ hs => h _ ?_⟩
  have he : ∃ q, h'.get? a = some q := let ⟨q, _, _, hq, _⟩ := dd'; ⟨q, hq⟩
  exact d_write (t' := s.toks) I (by rw [e]; exact True.intro) hs he (dk_new (Nat.le_trans (length_mergeK more kvs) hl) hd (rel2.merge rel) dd')
end
def rDUpd : V → List V → Hp → VK → Prop := fun x vs H Q => ∃ (a b : Addr) (kvs more : List (Key × V)), x = .ref a ∧ vs = [.ref b] ∧ H a = some (.dK kvs) ∧ Rd H b (.dK more) ∧ a ≠ b ∧ kvs.length + more.length ≤ sizeLine ∧ Q .non (upd H a (.dK (mergeK kvs more)))
theorem mtd_update {X : Cx} : MtR X "dict.update" rDUpd := by
  intro pins s σ H x vs v us Q I rx rv h
  obtain ⟨a, b, kvs, more, ex, ev, e, e2, hab, hl, q⟩ := h
  subst ex
  subst ev
  obtain rfl : v = Value.ref a := rx
  obtain ⟨u, eu, ru⟩ := vals1 rv
  subst eu
  obtain rfl : u = Value.ref b := ru
  exact d_update I e e2 hab hl fun s' I' => ⟨.non, _, I', rfl, q⟩
def mergeD (kvs more : List (DK × D)) : List (DK × D) := more.foldl (fun acc kv => putD acc kv.1 kv.2) kvs
section
variable {K : PySem.W.Frag} {cm : Cm} {A : AS} {H : Hp}
theorem RpK.merge : ∀ {ls ks : List (Key × V)} {lvs kvs : List (DK × D)}, RpK K cm A H ls lvs → RpK K cm A H ks kvs → RpK K cm A H (mergeK ks ls) (mergeD kvs lvs)
  | _, _, _, _, .nil, r => r
  | _, _, _, _, .cons (k := k) h l, r => by
    have := RpK.merge l (r.put (k := k) h)
    exact this
end
def eUpd (i : Nat) (g : Rho → Option (T × Rho)) : Em := fun ρ => (isDi ρ i).bind fun _ => (g ρ).bind fun p => match p.1 with
  | .di zs => (isDi p.2 i).bind fun s => if s.2.length + zs.length ≤ big then some (.val .non, p.2.set i (s.1.w (.di (mergeD s.2 zs)))) else none
  | _ => none
section
variable {X : Cx} {cm : Cm} {pos : Pos} {e o : Expr}
theorem fe_upd {i : Nat} {apos cpos : Pos} {g : Rho → Option (T × Rho)} (ho : PE X o (tVar i)) (ha : FN X cm e g)
    (hbase : attributeBase o "update" X.env (eval o X.env) = eval o X.env := by rfl)
    (hfew : ((backTo cpos (starEach [e] X.env)).all (fun x => !x.1) && (backToKw cpos (keywordEach [] X.env)).all (fun x => x.1.isSome)
      && decide ([e].length + ([] : List Keyword).length + (if ([] : List Keyword).isEmpty then 0 else 1) < 30)) = true := by rfl)
    (hline : (apos.endLine == cpos.line) = true := by rfl) (hs : starEach [e] X.env = (false, eval e X.env) :: starEach [] X.env := by rfl) (hplain : (backTo cpos (starEach ([] : List Expr) X.env)).any (·.1) = false := by rfl) :
    FE X cm (.Call (.Attribute o "update" apos) [e] [] cpos) (eUpd i g) :=
  (pe_bm PySem.F.plainAttrs_dict PySem.F.slot_dict_update PySem.F.type_dict_update mtd_update ho (fm_cons ha fm_nil hs) hbase hfew hline hs hplain).imp fun σ H Q ⟨C, A, ρ, t, ρ', R, q, k⟩ => by
    unfold eUpd at q
    simp only [Option.bind_eq_some_iff] at q
    obtain ⟨⟨s0, ds0⟩, h0, ⟨t1, ρ1⟩, h1, q⟩ := q
    dsimp only at q
    split at q
    rotate_left
    · cases q
    rename_i zs
    simp only [Option.bind_eq_some_iff] at q
    obtain ⟨⟨s, ds⟩, h3, q⟩ := q
    split at q
    rotate_left
    · cases q
    rename_i hz
    cases q
    obtain ⟨e0, t0⟩ := isDi_some h0
    obtain ⟨l0, xs0, v0, hl0, _⟩ := R.dict e0 t0
    refine ⟨_, v0, .inr (.inr (.inl ⟨rfl, .inl ⟨xs0, hl0⟩⟩)), C, A, ρ, [.di zs], ρ1, R, by simp [mCons, mNil, h1], fun vs H1 A1 F l1 R1 rt n hF => ?_⟩
    match vs, rt with
    | [], q => exact q.elim
    | _ :: _ :: _, ⟨_, _, _, _, q⟩ => exact q.elim
    | [v], ⟨F1, F2, e, rt, e2⟩ =>
      cases e2
      rw [List.append_nil] at e
      subst e
      obtain ⟨b, zs', rfl, hFb, hb, rz⟩ := rt
      obtain ⟨e1, t1'⟩ := isDi_some h3
      obtain ⟨l, xs, v1, hl, rl, put⟩ := R1.dict e1 t1'
      rw [v0] at v1; cases v1
      obtain ⟨R2, l2⟩ := put (mergeK xs zs') (mergeD ds zs) (rz.merge rl)
      refine ⟨l0, b, xs, zs', rfl, rfl, hl, .inl hb, ?_, big_le (by rw [rl.length, rz.length]; exact hz), ?_⟩
      · rintro rfl
        obtain ⟨G, _, _, g3, _, g5⟩ := R1.sl
        obtain ⟨o, x1, x2⟩ := g5 i s e1
        rw [v0] at x1; cases x1
        have : l0 ∈ G i := by
          cases s with
          | no => cases t1'
          | v t0 => cases t1'; obtain ⟨v, z1, ⟨a, ks, z2, z3, _⟩, _⟩ := x2; cases z1; cases z2; rw [z3]; simp
          | pin t0 => cases t1'; obtain ⟨v, z1, _, ⟨a, ks, z2, z3, _⟩, _⟩ := x2; cases z1; cases z2; rw [z3]; simp
        exact (g3 i l0 this).2.2 (by rw [hFb]; simp)
      exact k _ _ _ ((l1.trans l2).less fun a z => z.1) (RS.drop (fun a m => (hF a m).2.2) R2) .non
end
end G

/-! La78: mirrors of classes applied. -/
namespace G
open PySem PySem.Spec L2

@[simp] theorem eFld_ap (c : Nat) (f : Str) (g : Em) (ρ : Rho) : eFld c f g ρ = ((g ρ).bind fun p => (rdO c p.2 p.1).bind fun fs => (lkF f fs).map fun d => (.val d, p.2)) := (rfl)
@[simp] theorem rdO_val (c : Nat) (ρ : Rho) (fs : List (Str × D)) : rdO c ρ (.val (.obj c fs)) = some fs := by simp [rdO]
@[simp] theorem nMeth_ap (c : Nat) (m : Str) (n : Nat) (f : Rho → Option (T × Rho)) (o : Em) (g : Am) (ρ : Rho) : nMeth c m n f o g ρ = ((o ρ).bind fun p => (pu p.2 p.1).bind fun d => match d with
  | .obj c' fs => if c' = c ∧ (lkF m fs).isNone = true then (g p.2).bind fun q => (pus q.2 q.1).bind fun ds => if ds.length + 1 = n then (ap f (.obj c' fs :: ds)).map fun t => (t, q.2) else none else none
  | _ => none) := by
  unfold nMeth
  congr 1; funext p
  congr 1; funext d
  cases d with
  | obj c' fs =>
    dsimp only
    split
    · congr 1; funext q
      congr 1; funext ds
      split
      · rw [ap, Option.map_map]; rfl
      · rfl
    · rfl
  | _ => rfl
@[simp] theorem madeO_ok (c : Nat) (fs : List (Str × T)) (ss : Rho) : madeO c (.p .non, .pin (.ob c fs) :: ss) = if pureF fs = true then some (.ob c fs) else none := by simp [madeO]
@[simp] theorem nMakeO_ap (c n : Nat) (f : Rho → Option (T × Rho)) (g : Am) (ρ : Rho) : nMakeO c n f g ρ = ((g ρ).bind fun p => (pus p.2 p.1).bind fun ds => if ds.length + 1 = n then (f (.pin (.ob c []) :: slP ds)).bind fun r => (madeO c r).map fun t => (t, p.2) else none) := (rfl)
@[simp] theorem sFldM_ap (i c : Nat) (f : Str) (g : Rho → Option (T × Rho)) (ρ : Rho) : sFldM i c f g ρ = ((g ρ).bind fun p => match p.2[i]? with
  | some s => (match s.t with
    | some (.ob c' fs) => if c' = c ∧ pureF fs = true ∧ fs.length < 1000 then some (.nx (p.2.set i (s.w (.ob c (putT f p.1.d fs))))) else none
    | _ => none)
  | none => none) := (rfl)
@[simp] theorem eUpd_ap (i : Nat) (g : Rho → Option (T × Rho)) (ρ : Rho) : eUpd i g ρ = ((isDi ρ i).bind fun _ => (g ρ).bind fun p => match p.1 with
  | .di zs => (isDi p.2 i).bind fun s => if s.2.length + zs.length ≤ big then some (.val .non, p.2.set i (s.1.w (.di (mergeD s.2 zs)))) else none
  | _ => none) := (rfl)
@[simp] theorem pureF_nil : pureF [] = true := rfl
@[simp] theorem pureF_p (f : Str) (d : D) (r : List (Str × T)) : pureF ((f, .p d) :: r) = pureF r := rfl
@[simp] theorem Td_nil : T.ds [] = [] := by rw [T.ds]
@[simp] theorem Td_cons (f : Str) (t : T) (r : List (Str × T)) : T.ds ((f, t) :: r) = (f, t.d) :: T.ds r := by rw [T.ds]
@[simp] theorem Tob_d (c : Nat) (fs : List (Str × T)) : (T.ob c fs).d = .obj c (T.ds fs) := by rw [T.d]
@[simp] theorem putT_nil (f : Str) (d : D) : putT f d [] = [(f, .p d)] := rfl
@[simp] theorem sl_ob (c : Nat) (fs : List (Str × T)) : Sl.t (.pin (.ob c fs)) = some (.ob c fs) := rfl
end G

/-! La79: enumerate over a tuple. -/
namespace G
open PySem PySem.Spec PyProof.Rows L2
open Sem (wp)
open AutoSeq1 (wpAny_loadPart')

set_option maxHeartbeats 1000000 in
theorem meets_enT (l : Addr) (items : Array Value) :
    Meets (Builtin.«enumerate.__new__» ⟨[.type "enumerate", .ref l], []⟩) (fun _ R s => s.heap.IsTuple l items ∧
      R (.ok (.ret (.ref (s.heap.push { cls := .type "tuple_iterator", data := .fields #[.ref l, .int 0 0] }).objs.size)))
        { s with heap := (s.heap.push { cls := .type "tuple_iterator", data := .fields #[.ref l, .int 0 0] }).push { cls := .type "enumerate", data := .fields #[.none, .bool false, .ref s.heap.objs.size, rawInt 0, .none, .none] } }) :=
  .of_wp fun prog w A R s h => by
    obtain ⟨hp, g, d, tk, os⟩ := s; obtain ⟨hL, h⟩ := h
    have hsub := sub_enumerate
    have hL' := hL
    obtain ⟨o, hl, _, n, _⟩ := hL'
    wp_walk using wpAny_loadPart' hl
    refine wpAny_stack_any fun st => wpAny_pure ?_
    split
    · rename_i c _ _ _ _ _
      cases (c == Value.type "enumerate")
      · wp_walk using wpAny_loadPart' hl, wpAny_pyIter_tuple hL
        exact ⟨_, rfl, h⟩
      · wp_walk using wpAny_loadPart' hl, wpAny_pyIter_tuple hL
        exact ⟨_, rfl, h⟩
    · wp_walk using wpAny_loadPart' hl, wpAny_pyIter_tuple hL
      exact ⟨_, rfl, h⟩
section
variable {prog : Program} {w : World} {A : Around} {E : Value → Shared → Prop} {s : Shared}
theorem call_enT {l : Addr} {items : Array Value} {Q : Value → Shared → Prop} (hL : s.heap.IsTuple l items)
    (h : ∀ h', IsEnum h' (s.heap.objs.size + 1) s.heap.objs.size 0 .none → h'.IsTupleIter s.heap.objs.size l 0 → h'.objs.size = s.heap.objs.size + 2 →
      (∀ b o, s.heap.get? b = some o → h'.get? b = some o) → Q (.ref (s.heap.objs.size + 1)) { s with heap := h' }) :
    wpAny (model prog w) A (call (.type "enumerate") [.ref l]) Q E s := by
  refine callType_new F.called_enumerate (by decide) (F.typeCall_enumerate_1 _) (F.newCall_enumerate_1 _) (fun obj => F.args_object_init_2 obj _) F.entry_enumerate_new
    (meets_enT l items) ⟨hL, ?_⟩
  have hz : (s.heap.push { cls := .type "tuple_iterator", data := .fields #[.ref l, .int 0 0] }).objs.size = s.heap.objs.size + 1 := Heap.size_push ..
  show _ ∧ _
  rw [hz]
  have he : IsEnum ((s.heap.push { cls := .type "tuple_iterator", data := .fields #[.ref l, .int 0 0] }).push
      { cls := .type "enumerate", data := .fields #[.none, .bool false, .ref s.heap.objs.size, rawInt 0, .none, .none] }) (s.heap.objs.size + 1) s.heap.objs.size 0 .none := by
    have := Heap.get?_push_size (s.heap.push { cls := .type "tuple_iterator", data := .fields #[.ref l, .int 0 0] })
      (o := { cls := .type "enumerate", data := .fields #[.none, .bool false, .ref s.heap.objs.size, rawInt 0, .none, .none] }) rfl
    rw [hz] at this; exact this
  refine ⟨⟨_, he, rfl⟩, h _ he ⟨_, Heap.get?_push_of_some _ (Heap.get?_push_size _ rfl), rfl, rfl⟩ (by rw [Heap.size_push, hz]) fun b o x => Heap.get?_push_of_some _ (Heap.get?_push_of_some _ x)⟩
end
def IteT (K : PySem.W.Frag) (a : Addr) (n : Nat) : It :=
  ⟨fun i H => ∃ (xs : List V) (x : V), SqT K H a xs ∧ xs.length = n ∧ xs[i]? = some x, fun i H v H' => ∃ T x, v = .ref T ∧ H T = none ∧ H' = upd H T (.tup [.int (i : Nat), x]) ∧ ∀ xs, SqT K H a xs → xs[i]? = some x, fun i H => ∃ xs : List V, SqT K H a xs ∧ xs.length = n ∧ n ≤ i⟩
theorem tup_is {h : Heap} {a : Addr} {its : Array Value} (t : IsTup h a its) : h.IsTuple a its := t
theorem turn_enT {P : Program} {w : World} {K : PySem.W.Frag} {elts : List Expr} {kk : Nat} {tpos : Pos} (a e it : Addr) (n : Nat) :
    Turn P w K (.Tuple elts kk tpos) (IteT K a n) [e, it] e (fun i h => (∃ old, IsEnum h e it ((i : Nat) : Int) old) ∧ h.IsTupleIter it a i ∧ e ≠ it ∧ a ≠ it ∧ a ≠ e ∧ i ≤ n) where
  mem := by simp
  obj := fun i h st b hb => by
    obtain ⟨⟨old, he⟩, ⟨o, ho, hc, hd⟩, _⟩ := st
    have e' : b = e ∨ b = it := by simpa using hb
    rcases e' with z | z
    · rw [z]; exact ⟨_, he, fun v q => nomatch q⟩
    · rw [z]; exact ⟨o, ho, fun v q => by rw [hd] at q; cases q⟩
  keep := fun i h h' st k => let ⟨⟨old, he⟩, hi, hne⟩ := st; ⟨⟨old, k e (by simp) _ he⟩, hi.at fun o q => k it (by simp) o q, hne⟩
  item := by
    intro X hP hw hK hc i pins s σ H E I hf st hg
    subst hP hw hK
    obtain ⟨⟨old, he⟩, hit, hne, n1, n2, n3⟩ := st
    obtain ⟨xs, x, hq, hn, hx⟩ := hg
    obtain ⟨its, rv, p, hz⟩ := I.tuple hq
    obtain ⟨u, hu, ru⟩ := rv.get hx
    have hi : i < its.toArray.size := by simpa using (List.getElem?_eq_some_iff.mp hu).1
    have Wx := WalksT.enumFrom (prog := X.prog) (w := X.w) 0 (Draws.tuple (A := X.A.in1) (I.ok.hd hc) it a n1 its.toArray) e hne (by simp; exact ⟨hne, Ne.symm n2⟩) (by simp)
    have hel : e < s.heap.objs.size := Heap.lt_size he
    have hil : it < s.heap.objs.size := by obtain ⟨_, q, _⟩ := hit; exact Heap.lt_size q
    have st0 : (∃ old, IsEnum s.heap e it (0 + (i : Int)) old) ∧ s.heap.IsTupleIter it a i ∧ s.heap.IsTuple a its.toArray := ⟨⟨old, by rw [Int.zero_add]; exact he⟩, hit, tup_is p⟩
    refine Wx.item i s _ E hi st0 fun T vals h' tk hp hT hTup hMid hk => ⟨_, rfl, Wx.go elts kk tpos i T { s with heap := h', toks := tk } _ E hMid fun h'' st'' hk'' => ?_⟩
    obtain ⟨t2, y, hy, rfl⟩ := hp
    have hyu : y = u := by
      have : its.toArray[i]? = some u := by simpa using hu
      rw [this] at hy; cases hy; rfl
    subst hyu
    obtain ⟨o, ho, hcl, m, hd⟩ := hTup
    have hT2 : h''.get? T = some o := hk'' T o (Wx.apart i T h' hMid) ho
    have new : ObjOk X.prog X.w (upd H T (.tup [.int (i : Nat), x])) h'' T (.tup [.int (i : Nat), x]) :=
      ⟨by show 2 ≤ sizeLine; decide, [.int (0 + (i : Int)) t2, y], .cons ⟨t2, by rw [Int.zero_add]⟩ (.cons ru .nil), ⟨o, hT2, hcl, m, by rw [hd]⟩⟩
    have keepAll : ∀ b ob, b ∉ [e, it] → s.heap.get? b = some ob → h''.get? b = some ob := fun b ob hb q => hk'' b ob hb (hk b ob hb q)
    have I1 : Inv X pins σ (upd H T (.tup [.int (i : Nat), x])) { s with heap := h'', toks := tk } := I.turnedNew (ch := [e, it]) keepAll hf hT new
    refine ⟨.ref T, _, I1, rfl, ⟨T, x, rfl, I.hok.fresh hT, rfl, fun ys hy => by rw [I.tuple_inj hy hq]; exact hx⟩, ?_, fun b hb => ?_⟩
    · obtain ⟨⟨old2, he2⟩, hit2, _⟩ := st''
      refine ⟨⟨old2, ?_⟩, hit2, hne, n1, n2, by have := (List.getElem?_eq_some_iff.mp hx).1; omega⟩
      rw [Int.zero_add] at he2
      exact he2
    · have hb' : b < s.heap.objs.size := by
        have e' : b = e ∨ b = it := by simpa using hb
        rcases e' with z | z
        · rw [z]; exact hel
        · rw [z]; exact hil
      rw [upd_ne (Nat.ne_of_lt (Nat.lt_of_lt_of_le hb' hT))]
      exact (hf b hb).1
  done := by
    intro X hP hw hK hc i pins s σ H E I hf st hg
    subst hP hw hK
    obtain ⟨⟨old, he⟩, hit, hne, n1, n2, n3⟩ := st
    obtain ⟨xs, hq, hn, hx⟩ := hg
    obtain ⟨its, rv, p, hz⟩ := I.tuple hq
    have hl := rv.length
    have ei : i = its.toArray.size := by simp; omega
    have Wx := WalksT.enumFrom (prog := X.prog) (w := X.w) 0 (Draws.tuple (A := X.A.in1) (I.ok.hd hc) it a n1 its.toArray) e hne (by simp; exact ⟨hne, Ne.symm n2⟩) (by simp)
    have st0 : (∃ old, IsEnum s.heap e it (0 + (its.toArray.size : Int)) old) ∧ s.heap.IsTupleIter it a its.toArray.size ∧ s.heap.IsTuple a its.toArray := ⟨⟨old, by rw [Int.zero_add, ← ei]; exact he⟩, ei ▸ hit, tup_is p⟩
    refine Wx.done s _ E st0 fun h' tk hk => ⟨rfl, I.turnedL (ch := [e, it]) (fun b o hb q => hk b o (fun z => hb (by simpa using z)) q) hf⟩
  self := fun A i s Q E st h => let ⟨⟨_, he⟩, _⟩ := st; wpAny_pyIter_enum he h
def iEnumT (K : PySem.W.Frag) (ta : TA) : TI := fun σ H R => ta σ H fun vs H1 => ∃ a xs, vs = [.ref a] ∧ SqT K H1 a xs ∧ R (IteT K a xs.length) H1
theorem pi_enTu {X : Cx} {e : Expr} {ta : TA} {p pos tpos : Pos} {elts : List Expr} {kk : Nat} (hg : Gl X "enumerate") (hm : X.mg "enumerate" = none) (ha : PA X [e] ta) (hs : starEach [e] X.env = [(false, eval e X.env)] := by rfl) :
    PI X (.Tuple elts kk tpos) (.Call (.Name "enumerate" p) [e] [] pos) (iEnumT X.K ta) := by
  refine ⟨fun pins s σ H R I h => ?_⟩
  refine Call_ (ld_blt I hg hm boot_enumerate (PyProof.Rows.callWith_type1 (thn (ha.run pos pins s σ H _ I h) fun us s1 ⟨vs, H1, I1, r1, q1⟩ => ?_) hs rfl))
  obtain ⟨a, xs, ex, hq, q⟩ := q1
  subst ex
  cases r1 with
  | cons r rr =>
    cases rr
    cases r
    obtain ⟨its, rv, p', hz⟩ := I1.tuple hq
    have ha1 : a < s1.heap.objs.size := by obtain ⟨o, ho, _⟩ := p'; exact Heap.lt_size ho
    refine call_enT (tup_is p') fun h' he hit hsz hk => wpAny_pyIter_enum he ?_
    have I2 : Inv X pins σ H1 { s1 with heap := h' } := I1.kept (t' := s1.toks) hk
    refine ⟨s1.heap.objs.size + 1, [s1.heap.objs.size + 1, s1.heap.objs.size], _, _, H1, rfl, I2, turn_enT a (s1.heap.objs.size + 1) s1.heap.objs.size xs.length, ⟨⟨.none, he⟩, hit, Nat.succ_ne_self _, Nat.ne_of_lt ha1, Nat.ne_of_lt (Nat.lt_succ_of_lt ha1), Nat.zero_le _⟩, fun b hb => ?_, q⟩
    have e' : b = s1.heap.objs.size + 1 ∨ b = s1.heap.objs.size := by simpa using hb
    have hle : s1.heap.objs.size ≤ b := by
      rcases e' with z | z
      · rw [z]; exact Nat.le_add_right _ _
      · rw [z]; exact Nat.le_refl _
    exact I1.fpOk hle (I1.hok.fresh hle)
def iEnTu (g : Am) : Im := fun ρ => (g ρ).bind fun p => (pus p.2 p.1).bind fun es => match es with
  | [.tup ds] => some (enumD ds, p.2)
  | _ => none
section
variable {X : Cx} {cm : Cm} {e : Expr} {pos : Pos}
theorem it_enTu {K : PySem.W.Frag} {a : Addr} {n : Nat} {ds : List D} : ItOk K cm (IteT K a n) (fun A H => ∃ xs, ST K A H a xs ∧ xs.length = n ∧ RpL K cm A H xs ds) (enumD ds) where
  stay := fun _ _ _ _ ⟨xs, s, hn, r⟩ l => ⟨xs, s.later l, hn, r.later l⟩
  go := fun A H i ⟨xs, s, hn, r⟩ h => by
    have h' : i < xs.length := by rw [r.length]; simpa [enumD] using h
    exact ⟨xs, xs[i], s.sq, hn, List.getElem?_eq_getElem h'⟩
  yld := fun A H i x H' d ⟨xs, s, hn, r⟩ hdom e hy => by
    obtain ⟨T, y, rfl, hT, rfl, hx⟩ := hy
    simp only [enumD, List.getElem?_map, Option.map_eq_some_iff] at e
    obtain ⟨⟨d', j⟩, e1, rfl⟩ := e
    rw [List.getElem?_zipIdx] at e1
    simp only [Option.map_eq_some_iff, Nat.zero_add] at e1
    obtain ⟨d'', e2, e3⟩ := e1
    cases e3
    obtain ⟨v, h1, h2⟩ := r.get e2
    have := hx xs s.sq
    rw [h1] at this; cases this
    exact ⟨same_new hT, new_tup hdom hT (.cons (.int _) (.one h2))⟩
  stop := fun A H i ⟨xs, s, hn, r⟩ h => ⟨xs, s.sq, hn, by rw [← hn, r.length]; simpa [enumD] using h⟩
theorem fi_enTu {g : Am} {p tpos : Pos} {elts : List Expr} {kk : Nat} (hg : Gl X "enumerate") (hm : X.mg "enumerate" = none) (ha : FA X cm [e] g) (hs : starEach [e] X.env = [(false, eval e X.env)] := by rfl) : FI X cm (.Tuple elts kk tpos) (.Call (.Name "enumerate" p) [e] [] pos) (iEnTu g) :=
  (pi_enTu hg hm ha hs).imp fun σ H R ⟨C, A, ρ, ds, ρ', RS0, q, k⟩ => by
    unfold iEnTu at q
    simp only [Option.bind_eq_some_iff] at q
    obtain ⟨⟨rs, ρ1⟩, h1, es, h2, h3⟩ := q
    refine ⟨C, A, ρ, rs, ρ1, RS0, h1, fun vs H1 A1 l1 R1 w1 => ?_⟩
    have r := pus_ok R1 w1 h2
    dsimp only at h3
    split at h3
    · cases h3
      cases r with
      | cons r1 r => cases r with
        | nil => cases r1 with
          | tup s rl => exact ⟨_, _, rfl, s.sq, k _ H1 A1 _ l1 R1 it_enTu ⟨_, s, rfl, rl⟩⟩
    · cases h3
end
@[simp] theorem iEnTu_ap (g : Am) (ρ : Rho) : iEnTu g ρ = ((g ρ).bind fun p => (pus p.2 p.1).bind fun es => match es with
  | [.tup ds] => some (enumD ds, p.2)
  | _ => none) := (rfl)
end G

set_option maxHeartbeats 2000000
/-! La80: int * str; sorted(list of tuples of whole numbers). -/
namespace G
open PySem PySem.Spec L2 PyProof.Rows
/-! ### int * str -/
def rMulIS : R2 := fun x y H Q => ∃ (k : Int) (s : List Nat), x = .int k ∧ y = .str (S s) ∧ 1 ≤ k ∧ k ≤ 64 ∧ s.length ≤ 64 ∧ Q (.str (S (List.replicate k.toNat s).flatten)) H
theorem reps_S (s : List Nat) : ∀ (k : Nat) (acc : Array Nat), List.foldl (fun x1 x2 => x1 ++ x2) acc (List.replicate k (S s).cps) = (acc.toList ++ (List.replicate k s).flatten).toArray
  | 0, acc => by simp
  | k + 1, acc => by
    rw [List.replicate_succ, List.foldl_cons, reps_S s k]
    simp [S, List.replicate_succ, List.append_assoc]
section
variable {X : Cx}
theorem op_mulIS : OpR X (binaryOp .Mult) rMulIS := by
  intro pins s σ H x y v u Q I rx ry h
  obtain ⟨k, xs, rfl, rfl, h1, h2, h3, q⟩ := h
  obtain ⟨t, rfl⟩ := rx
  obtain ⟨t', rfl⟩ := ry
  have hl : (S xs).length ≤ 64 := by rw [S_len]; exact h3
  have hm : (S xs).length * k.toNat ≤ 4096 := by
    have : (S xs).length * k.toNat ≤ 64 * 64 := Nat.mul_le_mul hl (by omega)
    omega
  refine lm_binaryOp_repeat_right (T := "str") (U := "int") (by decide) (fun s' => typeIs_int s' k t) (typeIs_str s _ t') F.fills_int_mul noFill_str_mul F.slot_int_mul lm_noRepeat_int repeat_str F.slot_int_index.lookup
    (call_gives F.slot_int_mul (typeIs_int s k t) F.entry_int_mul (F.args_int_mul_2 _ _) (AutoIntG3.int___mul___int_str_0 k t _ t')
      ⟨rfl, typeIs_str s _ t', call_gives F.slot_str_mul (typeIs_str s _ t') F.entry_str_mul (F.args_str_mul_2 _ _) (gives_str_mul (S xs) k t' t ?_ ?_ ?_) ?_⟩)
  · have a1 : ¬ k < -(2 ^ 63 : Int) := by omega
    have a2 : ¬ k ≥ 2 ^ 63 := by omega
    rw [decide_eq_false a1, decide_eq_false a2]; rfl
  · intro _ _
    have h5 : (64 : Int) ≤ (2 ^ 63 - 1) / k := Int.le_ediv_of_mul_le (by omega) (by omega)
    have h6 : ((S xs).length : Int) ≤ 64 := by omega
    exact Int.not_lt.mpr (Int.le_trans h6 h5)
  · intro _ _
    simp only [Builtin.Str.tooLong, decide_eq_false_iff_not, sizeLine_eq]
    omega
  · rw [if_neg (by omega)]
    refine post_val_or_made (fun _ => ?_) fun t2 k2 => ?_
    · rw [reps_S]
      show ((#[] : Array Nat).toList ++ (List.replicate k.toNat xs).flatten).toArray.size ≤ _
      rw [List.size_toArray]
      have : ((#[] : Array Nat).toList ++ (List.replicate k.toNat xs).flatten).length = k.toNat * xs.length := by simp [lmul_len]
      rw [this, sizeLine_eq]
      rw [S_len, Nat.mul_comm] at hm
      omega
    · refine ⟨.str (S (List.replicate k.toNat xs).flatten), H, I.tok _, ?_, q⟩
      split
      · rename_i hc
        simp only [Bool.or_eq_true, beq_iff_eq] at hc
        rcases hc with e | e
        · subst e
          refine ⟨t2, ?_⟩
          simp
        · have : xs = [] := by
            rw [S_len] at e
            exact List.length_eq_zero_iff.mp e
          subst this
          refine ⟨t2, ?_⟩
          simp
      · refine ⟨t2, ?_⟩
        rw [reps_S]
        simp [S]
end
section
variable {K : PySem.W.Frag} {cm : Cm}
def cMulIS : D → D → Option D
  | .int k, .str s => if 1 ≤ k ∧ k ≤ 64 ∧ s.length ≤ 64 then some (.str (List.replicate k.toNat s).flatten) else none
  | _, _ => none
theorem ro_mulIS : RO K cm rMulIS cMulIS := by
  intro A H x y dx dy dz Q hd hx hy e k
  unfold cMulIS at e
  split at e
  · split at e
    · rename_i hz
      cases e
      cases hx.int
      cases hy.str
      exact ⟨_, _, rfl, rfl, hz.1, hz.2.1, hz.2.2, k _ H (.refl H) (.str _)⟩
    · cases e
  · cases e
end
/-! ### sorted(list of tuples of whole numbers) -/
def itsL : List D → Option (List Int)
  | [] => some []
  | .int i :: ds => (itsL ds).map (i :: ·)
  | _ => none
theorem itsL_is : ∀ {ds : List D} {l : List Int}, itsL ds = some l → ds = l.map .int
  | [], _, e => by cases e; rfl
  | .int i :: ds, l, e => by
    simp only [itsL, Option.map_eq_some_iff] at e
    obtain ⟨r, h, rfl⟩ := e
    rw [itsL_is h]; rfl
  | .non :: _, _, e => by cases e
  | .bl _ :: _, _, e => by cases e
  | .str _ :: _, _, e => by cases e
  | .lst _ :: _, _, e => by cases e
  | .tup _ :: _, _, e => by cases e
  | .dic _ :: _, _, e => by cases e
  | .obj _ _ :: _, _, e => by cases e
def its : D → Option (List Int)
  | .tup ds => itsL ds
  | _ => none
theorem its_is {d : D} {l : List Int} (h : its d = some l) : d = .tup (l.map .int) := by
  cases d <;> try (cases h)
  rw [itsL_is h]
def lt3 (a b : D) : Bool := match its a, its b with
  | some x, some y => decide (x < y)
  | _, _ => false
def alk3 (a : D) : Bool := match its a with
  | some (_ :: _) => true
  | _ => false
theorem alk3_is {a : D} (h : alk3 a = true) : ∃ i l, a = .tup ((i :: l).map .int) ∧ its a = some (i :: l) := by
  unfold alk3 at h
  split at h
  · rename_i i l e
    exact ⟨i, l, its_is e, e⟩
  · cases h
theorem pys_int : ∀ l : List Int, D.pys (l.map .int) = l.map PyData.int
  | [] => rfl
  | i :: l => by
    show D.py (.int i) :: D.pys (l.map .int) = _
    rw [pys_int l]; rfl
theorem alike_ints : ∀ l m : List Int, PySem.W.alikeAll (l.map PyData.int) (m.map PyData.int) = true
  | [], _ => by simp [PySem.W.alikeAll]
  | _ :: _, [] => by simp [PySem.W.alikeAll]
  | i :: l, j :: m => by simp [PySem.W.alikeAll, PySem.W.alike, alike_ints l m]
theorem depth_ints : ∀ l : List Int, PyData.depthAll (l.map PyData.int) = 0
  | [] => rfl
  | i :: l => by simp [PyData.depthAll, PyData.depth, depth_ints l]
theorem flats_ints : ∀ l : List Int, D.flats (l.map .int) = true
  | [] => rfl
  | i :: l => by
    show (D.flat (.int i) && D.flats (l.map .int)) = true
    rw [flats_ints l]; rfl
theorem alk3_py {x y : D} (hx : alk3 x = true) (hy : alk3 y = true) : PySem.W.alike x.py y.py = true ∧ PySem.W.dataLt x.py y.py = lt3 x y := by
  obtain ⟨i, l, rfl, e1⟩ := alk3_is hx
  obtain ⟨j, m, rfl, e2⟩ := alk3_is hy
  constructor
  · simp only [D.py, pys_int, PySem.W.alike]
    exact alike_ints _ _
  · simp only [D.py, pys_int]
    unfold lt3
    rw [e1, e2, PySem.W.dataLt_tuple]
    exact PySem.W.dataLt_ints _ _
def le3 (a b : D) : Bool := !lt3 b a
section
variable {X : Cx} {K : PySem.W.Frag} {cm : Cm}
def rSortTt (K : PySem.W.Frag) : List V → Hp → VK → Prop := fun vs H Q => ∃ (a : Addr) (xs : List V) (ds : List D), vs = [V.ref a] ∧ SqL K H a xs ∧ DpAll K H xs (D.pys ds) ∧ (∀ x ∈ ds, alk3 x = true) ∧
  ∀ p, H p = none → Q (.ref p) (upd H p (.lst (((xs.zip ds).mergeSort (PySem.W.dataLe false fun q : V × D => q.2.py)).map (·.1))))
theorem alk3_sortable {ds : List D} (h : ∀ x ∈ ds, alk3 x = true) : PySem.W.Sortable (ds.map D.py) := by
  refine .inl fun y my => ?_
  obtain ⟨x, mx, rfl⟩ := List.mem_map.mp my
  obtain ⟨i, l, rfl, _⟩ := alk3_is (h x mx)
  exact ⟨.int i, l.map PyData.int, by simp only [D.py, pys_int]; rfl⟩
theorem cr_sortedTt (hu : X.A.units + 3 < cLine) : CallR X (.builtin "sorted") (rSortTt X.K) := by
  intro pins s σ H vs us Q I r h
  obtain ⟨a, xs, ds, rfl, hs, hd, hal, q⟩ := h
  rw [Vals.ref1 r]
  obtain ⟨its, rv, hl, hz⟩ := I.list hs
  obtain ⟨e1, e2, e3, e4⟩ := srt_each I rv hd
  have e5 : (xs.zip ds).map (fun p : V × D => p.2.py) = ds.map D.py := by
    have := congrArg (List.map D.py) e3
    rwa [List.map_map] at this
  refine PySem.W.sorted_data (bs := xs.zip ds) (enc := fun p : V × D => p.2.py) (R := fun (v : Value) (p : V × D) => RelV p.1 v) hl.isList e1 e2 ?_ ?_ (by rw [e4, ← rv.length]; exact hz) (fun b hb => ?_) fun out ho eo => ?_
  · rw [e5]
    intro x hx y hy
    obtain ⟨x', mx, rfl⟩ := List.mem_map.mp hx
    obtain ⟨y', my, rfl⟩ := List.mem_map.mp hy
    exact (alk3_py (hal x' mx) (hal y' my)).1
  · rw [e5]
    exact alk3_sortable hal
  · have hm : b.2 ∈ ds := by rw [← e3]; exact List.mem_map.mpr ⟨b, hb, rfl⟩
    obtain ⟨i, l, e, _⟩ := alk3_is (hal _ hm)
    have : b.2.py.depth ≤ 1 := by
      rw [e]
      simp only [D.py, pys_int, PyData.depth, depth_ints]
      omega
    omega
  · obtain ⟨c, hc⟩ := sortedAll_at s.heap its out.toArray
    refine ⟨.ref (s.heap.objs.size + 1), upd H (s.heap.objs.size + 1) (.lst (((xs.zip ds).mergeSort (PySem.W.dataLe false fun q : V × D => q.2.py)).map (·.1))), I.laid (t' := s.toks) (fun b o q => sortedAll_old q) (Nat.le_succ _) ⟨?_, out, c, each_valsD eo, hc⟩, rfl, q _ (I.hok.fresh (Nat.le_succ _))⟩
    rw [List.length_map, List.length_mergeSort, e4, ← rv.length]
    exact hz
def cSortTt : List D → Option (List D)
  | [.lst ds] => if ds.all alk3 then some (ds.mergeSort le3) else none
  | _ => none
theorem flats_alk3 : ∀ {ds : List D}, (∀ x ∈ ds, alk3 x = true) → D.flats ds = true
  | [], _ => rfl
  | d :: ds, h => by
    obtain ⟨i, l, rfl, _⟩ := alk3_is (h d (by simp))
    show (D.flat (.tup ((i :: l).map .int)) && D.flats ds) = true
    rw [flats_alk3 (ds := ds) fun x m => h x (by simp [m])]
    simp only [D.flat, flats_ints, Bool.and_true]
theorem rc_sortTt : RCN K cm (rSortTt K) cSortTt := by
  intro A H vs es ds' Q hd hl hr e k
  unfold cSortTt at e
  split at e
  · rename_i ds
    split at e
    · rename_i hk
      cases e
      obtain ⟨v, rfl, r⟩ := hr.one
      obtain ⟨a, xs, rfl, hs, rl⟩ := r.ls
      have hall : ∀ x ∈ ds, alk3 x = true := List.all_eq_true.mp hk
      obtain ⟨hz, hm⟩ := rpl_zip rl
      refine ⟨a, xs, ds, rfl, hs, rl.dp (flats_alk3 hall), hall, fun p hp => k p _ hp ?_⟩
      have h1 := rpl_pairs (K := K) (cm := cm) (A := A) (H := H) (ps := (xs.zip ds).mergeSort (PySem.W.dataLe false fun q : V × D => q.2.py)) fun p m => hz p (List.mem_mergeSort.mp m)
      have h2 : ((xs.zip ds).mergeSort (PySem.W.dataLe false fun q : V × D => q.2.py)).map (·.2) = ds.mergeSort le3 := by
        have := List.map_mergeSort (r := PySem.W.dataLe false fun q : V × D => q.2.py) (s := le3) (f := fun q : V × D => q.2) (l := xs.zip ds) (fun p mp q mq => by
          have m1 : p.2 ∈ ds := by rw [← hm]; exact List.mem_map.mpr ⟨p, mp, rfl⟩
          have m2 : q.2 ∈ ds := by rw [← hm]; exact List.mem_map.mpr ⟨q, mq, rfl⟩
          show (!PySem.W.dataLt q.2.py p.2.py) = !lt3 q.2 p.2
          rw [(alk3_py (hall _ m2) (hall _ m1)).2])
        rw [this, hm]
      rw [h2] at h1
      exact h1
    · cases e
  · cases e
end
end G

/-! La81: x in a list of data of any depth. -/
namespace G
open PySem PySem.Spec L2 PyProof.Rows
theorem hu65 {k : Nat} {A : Around} (r : Room k A) : A.units + 65 < cLine := by have := r.un; omega
def cInDeep : D → D → Option D
  | x, .lst ds => if x.ok && (D.lst ds).ok then some (.bl (ds.any fun z => D.eq z x)) else none
  | _, _ => none
section
variable {K : PySem.W.Frag} {cm : Cm}
theorem any_py {x : D} (hx : x.flat = true) : ∀ {ds : List D}, D.flats ds = true → ((D.pys ds).any fun z => PyData.eqv z x.py) = ds.any fun z => D.eq z x
  | [], _ => rfl
  | d :: ds, h => by
    have h' : (d.flat && D.flats ds) = true := h
    rw [Bool.and_eq_true] at h'
    show (PyData.eqv d.py x.py || (D.pys ds).any fun z => PyData.eqv z x.py) = _
    rw [any_py hx h'.2, D.eq_py _ _ h'.1 hx]
    rfl
theorem ro_inDeep : RO K cm (rInD K) cInDeep := by
  intro A H x y dx dy dz Q hd hx hy e k
  unfold cInDeep at e
  split at e
  · rename_i ds
    split at e
    · rename_i h
      cases e
      rw [Bool.and_eq_true] at h
      have f1 : dx.flat = true := by have := h.1; unfold D.ok at this; rw [Bool.and_eq_true] at this; exact this.1
      have f2 : (D.lst ds).flat = true := by have := h.2; unfold D.ok at this; rw [Bool.and_eq_true] at this; exact this.1
      refine ⟨_, D.pys ds, hx.dp f1, hy.dp f2, D.shaped h.1, D.shaped h.2, ?_⟩
      rw [any_py f1 f2]
      exact k _ H (.refl H) (.bl _)
    · cases e
  · cases e
end
end G

namespace W_bandhems_k19_whole_plain_forms
open PySem PySem.Spec L2 G PyProof.Rows
def top (i : Nat) : Stmt := PySem.Challenge.pw_bandhems_k19_whole_plain_forms.main.body.getD i (.Pass ⟨0, 0, 0, 0⟩)
def mth (i j : Nat) : Stmt := inClass (top i) j
def fuel : Nat := 1000000
def c_MOST : D := (.int 12)
def c_ONE_SIDE : D := (.int 1)
def c_TWO_SIDES : D := (.int 2)
def c_LETTERS : D := (.str [97, 98, 99, 100, 101, 102, 103, 104, 105, 106, 107, 108])
def c_FORWARD : D := (.int 1)
section
variable {P : Program} {w : World} {K : PySem.W.Frag} {mg : Str → Option Value} {base : Heap} {cm : Cm} {f : Addr} {fd : FuncData}
abbrev s__law_take : Stmt := top 63
theorem sc__law_take : FnScope ["well", "many", "by", "figure"] ["well", "many"] (defScope s__law_take) := ⟨rfl, rfl, rfl, by decide +kernel, rfl, by decide +kernel, by decide +kernel⟩
def b__law_take : Sm := (sSeq (sIf (bOf (eOp cGt (eIx (eVar 0) (eC (.int 0))) (eC (.int 0)))) (sSeq (sT (eCb cDivmod (aCons (eIx (eVar 0) (eC (.int 0))) (aCons (eVar 1) aNil))) (hTup 2 (hCons (hSub 0 (eC (.int 0))) (hCons (hName 3) hNil))))
    (sRet (nMove 3))) sNil)
    (sSeq (sPut 0 (eOp cAdd (eIx (eVar 0) (eC (.int 2))) (eC (.int 1))) (eC (.int 2)))
    (sSeq (sAsg 2 (nVal (eOp cAdd (eOp cMod (eCb cInt (aCons (eIx (eVar 0) (eC (.int 1))) aNil)) (eC (.int 28657))) (eC (.int 40009)))))
    (sSeq (sPut 0 (eOp cMod (eCb cInt (aCons (eOp cAdd (eOp cAdd (eOp cMul (eIx (eVar 0) (eC (.int 1))) (eVar 2)) (eOp cMul (eC (.int 50023)) (eIx (eVar 0) (eC (.int 2))))) (eC (.int 17))) aNil)) (eC (.int 2147483563))) (eC (.int 1)))
    (sRet (nVal (eOp cMod (eCb cInt (aCons (eOp cDiv (eIx (eVar 0) (eC (.int 1))) (eC (.int 83))) aNil)) (eVar 1))))))))
def m__law_take : Rho → Option (T × Rho) := runD 2 b__law_take
theorem w__law_take (D : Dn K mg "_law_take" s__law_take ["well", "many"] f fd) (z_divmod : mg "divmod" = none) (z_int : mg "int" = none) : FnG P w K mg base cm 1 f fd ["well", "many"] m__law_take := fd_ok D.F (N := ["well", "many", "by", "figure"]) sc__law_take fun cdv A outer s H E hr => by
  have S := sc__law_take
  have hu := hu_of hr
  have hv := hr.units
  have hc : (cxOf CX0 P w K mg base ["well", "many", "by", "figure"] "_law_take" (defScope s__law_take) f cdv A outer s H E).nox.calm = true := rfl
  exact (fss_cons (fs_if (fb_cmp op_gtA ro_gt (fe_ix hu (fe_var (pv 0)) fe_int) fe_int (nomark _)) (fss_cons (fs_tgt (fe_cb call_divmod rc_divmod rfl z_divmod (by decide +kernel) (fa_cons (fe_ix hu (fe_var (pv 0)) fe_int) (fa_cons (fe_var (pv 1)) fa_nil))) (fg_tup hc (fgs_cons (fg_sub (pv 0) fe_int) (fgs_cons (fg_name (pg_name (i := 3) S.nd rfl (by first | exact .inl rfl | exact .inr rfl))) fgs_nil))))
    (fss_one (fs_ret (fn_move (pv 3))))) fss_nil)
    (fss_cons (fs_put (i := 0) hu (pv 0) fe_int (fe_op op_addA ro_add (fe_ix hu (fe_var (pv 0)) fe_int) fe_int))
    (fss_cons (fs_asg (i := 2) S.nd rfl (by first | exact .inl rfl | exact .inr rfl) (fn_val (fe_op op_addA ro_add (fe_op op_mod ro_mod (fe_ct call_int1 rc_int rfl z_int (by decide +kernel) (fa_cons (fe_ix hu (fe_var (pv 0)) fe_int) fa_nil)) fe_int) fe_int)))
    (fss_cons (fs_put (i := 0) hu (pv 0) fe_int (fe_op op_mod ro_mod (fe_ct call_int1 rc_int rfl z_int (by decide +kernel) (fa_cons (fe_op op_addA ro_add (fe_op op_addA ro_add (fe_op op_mulA ro_mul (fe_ix hu (fe_var (pv 0)) fe_int) (fe_var (pv 2))) (fe_op op_mulA ro_mul fe_int (fe_ix hu (fe_var (pv 0)) fe_int))) fe_int) fa_nil)) fe_int))
    (fss_one (fs_ret (fn_val (fe_op op_mod ro_mod (fe_ct call_int1 rc_int rfl z_int (by decide +kernel) (fa_cons (fe_op op_fdivW ro_div (fe_ix hu (fe_var (pv 0)) fe_int) fe_int) fa_nil)) (fe_var (pv 1))))))))))
abbrev s_is_whole : Stmt := top 7
theorem sc_is_whole : FnScope ["value"] ["value"] (defScope s_is_whole) := ⟨rfl, rfl, rfl, by decide +kernel, rfl, by decide +kernel, by decide +kernel⟩
def b_is_whole : Sm := (sRet (nVal (eAnd (eIsi "int" (eVar 0)) (eNot (eIsi "bool" (eVar 0))))))
def m_is_whole : Rho → Option (T × Rho) := runD 0 b_is_whole
theorem w_is_whole (D : Dn K mg "is_whole" s_is_whole ["value"] f fd) (z_bool : mg "bool" = none) (z_int : mg "int" = none) (z_isinstance : mg "isinstance" = none) : FnG P w K mg base cm 1 f fd ["value"] m_is_whole := fd_ok D.F (N := ["value"]) sc_is_whole fun cdv A outer s H E hr => by
  have S := sc_is_whole
  have hu := hu_of hr
  have hv := hr.units
  have hc : (cxOf CX0 P w K mg base ["value"] "is_whole" (defScope s_is_whole) f cdv A outer s H E).nox.calm = true := rfl
  exact (fss_one (fs_ret (fn_val (fe_and (fe_isi (T := "int") rfl rfl z_isinstance (by decide +kernel) (fe_var (pv 0)) (pe_bltn rfl z_int (by decide +kernel) rfl)) (fe_one (fe_not (fe_isi (T := "bool") rfl rfl z_isinstance (by decide +kernel) (fe_var (pv 0)) (pe_bltn rfl z_bool (by decide +kernel) rfl))))))))
abbrev s_is_between : Stmt := top 8
theorem sc_is_between : FnScope ["value", "low", "high"] ["value", "low", "high"] (defScope s_is_between) := ⟨rfl, rfl, rfl, by decide +kernel, rfl, by decide +kernel, by decide +kernel⟩
def b_is_between : Sm := (sRet (nVal (eAnd (eFrz (nCall 1 m_is_whole (aCons (eKeep 0) aNil))) (eChain cLe cLe (eVar 1) (eVar 0) (eVar 2)))))
def m_is_between : Rho → Option (T × Rho) := runD 0 b_is_between
theorem w_is_between (D : Dn K mg "is_between" s_is_between ["value", "low", "high"] f fd) (d_is_whole : Dg P w K mg base cm 1 "is_whole" ["value"] m_is_whole) : FnG P w K mg base cm 2 f fd ["value", "low", "high"] m_is_between := fd_ok D.F (N := ["value", "low", "high"]) sc_is_between fun cdv A outer s H E hr => by
  have S := sc_is_between
  have hu := hu_of hr
  have hv := hr.units
  have hc : (cxOf CX0 P w K mg base ["value", "low", "high"] "is_between" (defScope s_is_between) f cdv A outer s H E).nox.calm = true := rfl
  exact (fss_one (fs_ret (fn_val (fe_and (fe_frz (fn_call d_is_whole hr (by decide) (by rfl) (fa_cons (fe_keep (pv 0)) fa_nil))) (fe_one (fe_chain op_leA op_leA ro_le ro_le (fe_var (pv 1)) (fe_var (pv 0)) (fe_var (pv 2))))))))
abbrev s_check_number : Stmt := top 49
theorem sc_check_number : FnScope ["value", "low", "high"] ["value", "low", "high"] (defScope s_check_number) := ⟨rfl, rfl, rfl, by decide +kernel, rfl, by decide +kernel, by decide +kernel⟩
def b_check_number : Sm := (sIf (bNot (bOf (eFrz (nCall 3 m_is_between (aCons (eKeep 0) (aCons (eKeep 1) (aCons (eKeep 2) aNil))))))) sNever sNil)
def m_check_number : Rho → Option (T × Rho) := runD 0 b_check_number
theorem w_check_number (D : Dn K mg "check_number" s_check_number ["value", "low", "high"] f fd) (d_is_between : Dg P w K mg base cm 2 "is_between" ["value", "low", "high"] m_is_between) : FnG P w K mg base cm 3 f fd ["value", "low", "high"] m_check_number := fd_ok D.F (N := ["value", "low", "high"]) sc_check_number fun cdv A outer s H E hr => by
  have S := sc_check_number
  have hu := hu_of hr
  have hv := hr.units
  have hc : (cxOf CX0 P w K mg base ["value", "low", "high"] "check_number" (defScope s_check_number) f cdv A outer s H E).nox.calm = true := rfl
  exact (fss_one (fs_if (fb_not (fb_val (fe_frz (fn_call d_is_between hr (by decide) (by rfl) (fa_cons (fe_keep (pv 0)) (fa_cons (fe_keep (pv 1)) (fa_cons (fe_keep (pv 2)) fa_nil))))))) (fss_one fs_never) fss_nil))
abbrev s_is_tuple_of : Stmt := top 9
theorem sc_is_tuple_of : FnScope ["value", "many"] ["value", "many"] (defScope s_is_tuple_of) := ⟨rfl, rfl, rfl, by decide +kernel, rfl, by decide +kernel, by decide +kernel⟩
def b_is_tuple_of : Sm := (sRet (nVal (eAnd (eIsi "tuple" (eVar 0)) (eOp cEq (eCb cLen (aCons (eVar 0) aNil)) (eVar 1)))))
def m_is_tuple_of : Rho → Option (T × Rho) := runD 0 b_is_tuple_of
theorem w_is_tuple_of (D : Dn K mg "is_tuple_of" s_is_tuple_of ["value", "many"] f fd) (z_isinstance : mg "isinstance" = none) (z_len : mg "len" = none) (z_tuple : mg "tuple" = none) : FnG P w K mg base cm 1 f fd ["value", "many"] m_is_tuple_of := fd_ok D.F (N := ["value", "many"]) sc_is_tuple_of fun cdv A outer s H E hr => by
  have S := sc_is_tuple_of
  have hu := hu_of hr
  have hv := hr.units
  have hc : (cxOf CX0 P w K mg base ["value", "many"] "is_tuple_of" (defScope s_is_tuple_of) f cdv A outer s H E).nox.calm = true := rfl
  exact (fss_one (fs_ret (fn_val (fe_and (fe_isi (T := "tuple") rfl rfl z_isinstance (by decide +kernel) (fe_var (pv 0)) (pe_bltn rfl z_tuple (by decide +kernel) rfl)) (fe_one (fe_cmp (op_eqD hv) ro_eq (fe_cb call_len rc_len rfl z_len (by decide +kernel) (fa_cons (fe_var (pv 0)) fa_nil)) (fe_var (pv 1)) (nomark _)))))))
abbrev s_are_wholes : Stmt := top 10
theorem sc_are_wholes : FnScope ["value", "many", "each"] ["value", "many"] (defScope s_are_wholes) := ⟨rfl, rfl, rfl, by decide +kernel, rfl, by decide +kernel, by decide +kernel⟩
def e_are_wholes_1 : Em := (eFrz (nCall 1 m_is_whole (aCons (eKeep 2) aNil)))
def b_are_wholes : Sm := (sRet (nVal (eAnd (eFrz (nCall 2 m_is_tuple_of (aCons (eKeep 0) (aCons (eKeep 1) aNil)))) (eCb cAll (aCons (eFrz (nLc [2] (iSeq (eKeep 0)) (hName 2) bYes e_are_wholes_1)) aNil)))))
def m_are_wholes : Rho → Option (T × Rho) := runD 1 b_are_wholes
theorem w_are_wholes (D : Dn K mg "are_wholes" s_are_wholes ["value", "many"] f fd) (d_is_tuple_of : Dg P w K mg base cm 1 "is_tuple_of" ["value", "many"] m_is_tuple_of) (d_is_whole : Dg P w K mg base cm 1 "is_whole" ["value"] m_is_whole) (z_all : mg "all" = none) : FnG P w K mg base cm 2 f fd ["value", "many"] m_are_wholes := fd_ok D.F (N := ["value", "many", "each"]) sc_are_wholes fun cdv A outer s H E hr => by
  have S := sc_are_wholes
  have hu := hu_of hr
  have hv := hr.units
  have hc : (cxOf CX0 P w K mg base ["value", "many", "each"] "are_wholes" (defScope s_are_wholes) f cdv A outer s H E).nox.calm = true := rfl
  exact (fss_one (fs_ret (fn_val (fe_and (fe_frz (fn_call d_is_tuple_of hr (by decide) (by rfl) (fa_cons (fe_keep (pv 0)) (fa_cons (fe_keep (pv 1)) fa_nil)))) (fe_one (fe_cb (cr_all hc) rc_all rfl z_all (by decide +kernel) (fa_cons (fe_frz (fn_lc (own := [("each", 2)]) hc S.nd (fi_seq (fe_keep (pv 0))) (blkOk_by (by rfl)) (fun _ _ _ _ _ => (fg_name (pg_name (i := 2) S.nd rfl (by first | exact .inl rfl | exact .inr rfl)))) (fun _ _ _ _ _ => fts_nil) (fun _ _ _ _ _ => (fe_frz (fn_call d_is_whole hr (by decide) (by rfl) (fa_cons (fe_keep (pv 2)) fa_nil)))) (by decide))) fa_nil)))))))
abbrev s_bands_of : Stmt := top 42
theorem sc_bands_of : FnScope ["kind"] ["kind"] (defScope s_bands_of) := ⟨rfl, rfl, rfl, by decide +kernel, rfl, by decide +kernel, by decide +kernel⟩
def b_bands_of : Sm := (sRet (nVal (eOp cSub (eOp cAdd (eIx (eVar 0) (eC (.int 0))) (eIx (eVar 0) (eC (.int 2)))) (eC (.int 1)))))
def m_bands_of : Rho → Option (T × Rho) := runD 0 b_bands_of
theorem w_bands_of (D : Dn K mg "bands_of" s_bands_of ["kind"] f fd)  : FnG P w K mg base cm 1 f fd ["kind"] m_bands_of := fd_ok D.F (N := ["kind"]) sc_bands_of fun cdv A outer s H E hr => by
  have S := sc_bands_of
  have hu := hu_of hr
  have hv := hr.units
  have hc : (cxOf CX0 P w K mg base ["kind"] "bands_of" (defScope s_bands_of) f cdv A outer s H E).nox.calm = true := rfl
  exact (fss_one (fs_ret (fn_val (fe_op op_sub ro_sub (fe_op op_addA ro_add (fe_ix hu (fe_var (pv 0)) fe_int) (fe_ix hu (fe_var (pv 0)) fe_int)) fe_int))))
abbrev s_is_kinded : Stmt := top 43
theorem sc_is_kinded : FnScope ["value"] ["value"] (defScope s_is_kinded) := ⟨rfl, rfl, rfl, by decide +kernel, rfl, by decide +kernel, by decide +kernel⟩
def b_is_kinded : Sm := (sSeq (sIf (bOr (bNot (bOf (eFrz (nCall 2 m_are_wholes (aCons (eKeep 0) (aCons (eC (.int 3)) aNil)))))) (bOr (bOf (eOp cLt (eIx (eVar 0) (eC (.int 0))) (eC (.int 1)))) (bOr (bOf (eOp cLt (eIx (eVar 0) (eC (.int 2))) (eC (.int 0)))) (bOf (eOp cGt (eFrz (nCall 1 m_bands_of (aCons (eKeep 0) aNil))) (eC c_MOST)))))) (sRet (nVal (eC (.bl false)))) sNil)
    (sSeq (sIf (bOf (eOp cEq (eIx (eVar 0) (eC (.int 1))) (eC c_TWO_SIDES))) (sRet (nVal (eOp cEq (eOp cMod (eIx (eVar 0) (eC (.int 2))) (eC (.int 2))) (eC (.int 0))))) sNil)
    (sRet (nVal (eAnd (eOp cEq (eIx (eVar 0) (eC (.int 1))) (eC c_ONE_SIDE)) (eOp cGe (eIx (eVar 0) (eC (.int 2))) (eC (.int 1))))))))
def m_is_kinded : Rho → Option (T × Rho) := runD 0 b_is_kinded
theorem w_is_kinded (D : Dn K mg "is_kinded" s_is_kinded ["value"] f fd) (d_are_wholes : Dg P w K mg base cm 2 "are_wholes" ["value", "many"] m_are_wholes) (d_bands_of : Dg P w K mg base cm 1 "bands_of" ["kind"] m_bands_of) (k_MOST : KC K cm mg "MOST" c_MOST) (k_ONE_SIDE : KC K cm mg "ONE_SIDE" c_ONE_SIDE) (k_TWO_SIDES : KC K cm mg "TWO_SIDES" c_TWO_SIDES) : FnG P w K mg base cm 3 f fd ["value"] m_is_kinded := fd_ok D.F (N := ["value"]) sc_is_kinded fun cdv A outer s H E hr => by
  have S := sc_is_kinded
  have hu := hu_of hr
  have hv := hr.units
  have hc : (cxOf CX0 P w K mg base ["value"] "is_kinded" (defScope s_is_kinded) f cdv A outer s H E).nox.calm = true := rfl
  exact (fss_cons (fs_if (fb_w (fw_or (fb_not (fb_val (fe_frz (fn_call d_are_wholes hr (by decide) (by rfl) (fa_cons (fe_keep (pv 0)) (fa_cons fe_int fa_nil)))))) (fw_or (fb_cmp op_ltA ro_lt (fe_ix hu (fe_var (pv 0)) fe_int) fe_int (nomark _)) (fw_or (fb_cmp op_ltA ro_lt (fe_ix hu (fe_var (pv 0)) fe_int) fe_int (nomark _)) (fw_one (fb_cmp op_gtA ro_gt (fe_frz (fn_call d_bands_of hr (by decide) (by rfl) (fa_cons (fe_keep (pv 0)) fa_nil))) (KC.fe k_MOST rfl) (nomark _)) (by first | exact .inl rfl | exact .inr rfl)))))) (fss_one (fs_ret (fn_val fe_bl))) fss_nil)
    (fss_cons (fs_if (fb_cmp (op_eqD hv) ro_eq (fe_ix hu (fe_var (pv 0)) fe_int) (KC.fe k_TWO_SIDES rfl) (nomark _)) (fss_one (fs_ret (fn_val (fe_cmp (op_eqD hv) ro_eq (fe_op op_mod ro_mod (fe_ix hu (fe_var (pv 0)) fe_int) fe_int) fe_int (nomark _))))) fss_nil)
    (fss_one (fs_ret (fn_val (fe_and (fe_cmp (op_eqD hv) ro_eq (fe_ix hu (fe_var (pv 0)) fe_int) (KC.fe k_ONE_SIDE rfl) (nomark _)) (fe_one (fe_cmp op_geA ro_ge (fe_ix hu (fe_var (pv 0)) fe_int) fe_int (nomark _)))))))))
abbrev s_kinds_by : Stmt := top 44
theorem sc_kinds_by : FnScope ["number", "some", "rank", "sides", "kind"] ["number"] (defScope s_kinds_by) := ⟨rfl, rfl, rfl, by decide +kernel, rfl, by decide +kernel, by decide +kernel⟩
def e_kinds_by_1 : Em := (eTup (aCons (eOp cSub (eOp cAdd (eVar 0) (eC (.int 1))) (eVar 2)) (aCons (eKeep 3) (aCons (eKeep 2) aNil))))
def e_kinds_by_2 : Em := (eKeep 4)
def b_kinds_by : Sm := (sSeq (sAsg 1 (nLc2 [2, 3] [3] (iRng1 (aCons (eOp cAdd (eVar 0) (eC (.int 1))) aNil)) (hName 2) bYes (iSeq (eTup (aCons (eC c_ONE_SIDE) (aCons (eC c_TWO_SIDES) aNil)))) (hName 3) bYes e_kinds_by_1))
    (sRet (nCb cSortTt (aCons (eFrz (nLc [4] (iSeq (eKeep 1)) (hName 4) (bOf (eFrz (nCall 1 m_is_kinded (aCons (eKeep 4) aNil)))) e_kinds_by_2)) aNil))))
def m_kinds_by : Rho → Option (T × Rho) := runD 4 b_kinds_by
theorem w_kinds_by (D : Dn K mg "kinds_by" s_kinds_by ["number"] f fd) (d_is_kinded : Dg P w K mg base cm 3 "is_kinded" ["value"] m_is_kinded) (z_range : mg "range" = none) (z_sorted : mg "sorted" = none) (k_ONE_SIDE : KC K cm mg "ONE_SIDE" c_ONE_SIDE) (k_TWO_SIDES : KC K cm mg "TWO_SIDES" c_TWO_SIDES) : FnG P w K mg base cm 4 f fd ["number"] m_kinds_by := fd_ok D.F (N := ["number", "some", "rank", "sides", "kind"]) sc_kinds_by fun cdv A outer s H E hr => by
  have S := sc_kinds_by
  have hu := hu_of hr
  have hv := hr.units
  have hc : (cxOf CX0 P w K mg base ["number", "some", "rank", "sides", "kind"] "kinds_by" (defScope s_kinds_by) f cdv A outer s H E).nox.calm = true := rfl
  exact (fss_cons (fs_setLc2 (i := 1) (own := [("rank", 2), ("sides", 3)]) (own1 := [3]) hc S.nd rfl rfl rfl (fi_rng1 rfl z_range (fa_cons (fe_op op_addA ro_add (fe_var (pv 0)) fe_int) fa_nil)) (blkOk_by (by rfl)) (by decide) (fun _ _ _ _ _ => (fg_name (pg_name (i := 2) S.nd rfl (by first | exact .inl rfl | exact .inr rfl)))) (fun _ _ _ _ _ => fts_nil) (fun _ _ _ _ _ => (fi_seq (fe_tup (fa_cons (KC.fe k_ONE_SIDE rfl) (fa_cons (KC.fe k_TWO_SIDES rfl) fa_nil))))) (fun _ _ _ _ _ => (fg_name (pg_name (i := 3) S.nd rfl (by first | exact .inl rfl | exact .inr rfl)))) (fun _ _ _ _ _ => fts_nil) (fun _ _ _ _ _ => (fe_tup (fa_cons (fe_op op_sub ro_sub (fe_op op_addA ro_add (fe_var (pv 0)) fe_int) (fe_var (pv 2))) (fa_cons (fe_keep (pv 3)) (fa_cons (fe_keep (pv 2)) fa_nil))))) (by decide) (by decide))
    (fss_one (fs_ret (fn_cb (cr_sortedTt (hu3 hr)) rc_sortTt rfl z_sorted (by decide +kernel) (fa_cons (fe_frz (fn_lc (own := [("kind", 4)]) hc S.nd (fi_seq (fe_keep (pv 1))) (blkOk_by (by rfl)) (fun _ _ _ _ _ => (fg_name (pg_name (i := 4) S.nd rfl (by first | exact .inl rfl | exact .inr rfl)))) (fun _ _ _ _ _ => (fts_one (fb_val (fe_frz (fn_call d_is_kinded hr (by decide) (by rfl) (fa_cons (fe_keep (pv 4)) fa_nil)))))) (fun _ _ _ _ _ => (fe_keep (pv 4))) (by decide))) fa_nil)))))
abbrev s_kinds_of : Stmt := top 53
theorem sc_kinds_of : FnScope ["number"] ["number"] (defScope s_kinds_of) := ⟨rfl, rfl, rfl, by decide +kernel, rfl, by decide +kernel, by decide +kernel⟩
def b_kinds_of : Sm := (sSeq (sE (eFrz (nCall 3 m_check_number (aCons (eKeep 0) (aCons (eC (.int 0)) (aCons (eC c_MOST) aNil))))))
    (sRet (nVal (eCb cTuple (aCons (eFrz (nCall 1 m_kinds_by (aCons (eKeep 0) aNil))) aNil)))))
def m_kinds_of : Rho → Option (T × Rho) := runD 0 b_kinds_of
theorem w_kinds_of (D : Dn K mg "kinds_of" s_kinds_of ["number"] f fd) (d_check_number : Dg P w K mg base cm 3 "check_number" ["value", "low", "high"] m_check_number) (d_kinds_by : Dg P w K mg base cm 4 "kinds_by" ["number"] m_kinds_by) (z_tuple : mg "tuple" = none) (k_MOST : KC K cm mg "MOST" c_MOST) : FnG P w K mg base cm 5 f fd ["number"] m_kinds_of := fd_ok D.F (N := ["number"]) sc_kinds_of fun cdv A outer s H E hr => by
  have S := sc_kinds_of
  have hu := hu_of hr
  have hv := hr.units
  have hc : (cxOf CX0 P w K mg base ["number"] "kinds_of" (defScope s_kinds_of) f cdv A outer s H E).nox.calm = true := rfl
  exact (fss_cons (fs_expr (fe_frz (fn_call d_check_number hr (by decide) (by rfl) (fa_cons (fe_keep (pv 0)) (fa_cons fe_int (fa_cons (KC.fe k_MOST rfl) fa_nil))))))
    (fss_one (fs_ret (fn_val (fe_ct call_tuple_of rc_tuple rfl z_tuple (by decide +kernel) (fa_cons (fe_frz (fn_call d_kinds_by hr (by decide) (by rfl) (fa_cons (fe_keep (pv 0)) fa_nil))) fa_nil))))))
abbrev s__law_plain : Stmt := top 65
theorem sc__law_plain : FnScope ["triple", "signs", "word", "twisted", "first", "sides", "most", "turn", "one", "two"] ["triple"] (defScope s__law_plain) := ⟨rfl, rfl, rfl, by decide +kernel, rfl, by decide +kernel, by decide +kernel⟩
def l__law_plain_1 : Sm := (sSeq (sAsg 8 (nVal (eMt 1 mPopAt (aCons (eC (.int 0)) aNil))))
    (sIf (bOf (eOp cEq (eVar 5) (eC (.int 2)))) (sSeq (sAsg 9 (nVal (eMt 1 mPopAt (aCons (eC (.int 0)) aNil))))
    (sAsg 2 (nVal (eOp cAdd (eOp cAdd (eOp cAdd (eOp cAdd (eVar 2) (eVar 8)) (eVar 9)) (eVar 8)) (eVar 9))))) (sPars [2, 3] (mCons (nVal (eOp cAdd (eOp cAdd (eVar 2) (eVar 8)) (eVar 8))) (mCons (nVal (eOp cAdd (eVar 3) (eVar 8))) mNil)))))
def l__law_plain_2 : Sm := (sSeq (sAsg 8 (nVal (eMt 1 mPopAt (aCons (eC (.int 0)) aNil))))
    (sAsg 2 (nVal (eOp cAdd (eOp cAdd (eVar 2) (eVar 8)) (eVar 8)))))
def b__law_plain : Sm := (sSeq (sPars [1, 2, 3] (mCons (nCb cListX (aCons (eC (.str [97, 98, 99, 100, 101, 102, 103, 104, 105, 106, 107, 108])) aNil)) (mCons (nVal (eC (.str []))) (mCons (nVal (eC (.str []))) mNil))))
    (sSeq (sT (eKeep 0) (hTup 3 (hCons (hName 4) (hCons (hName 5) (hCons (hName 6) hNil)))))
    (sSeq (sFor (iRng1 (aCons (eIf (bOf (eOp cEq (eVar 5) (eC (.int 2)))) (eOp cDiv (eVar 6) (eC (.int 2))) (eVar 6)) aNil)) (hName 7) l__law_plain_1)
    (sSeq (sFor (iRng1 (aCons (eOp cSub (eVar 4) (eC (.int 1))) aNil)) (hName 7) l__law_plain_2)
    (sRet (nVal (eTup (aCons (eKeep 2) (aCons (eKeep 3) aNil)))))))))
def m__law_plain : Rho → Option (T × Rho) := runD 9 b__law_plain
theorem w__law_plain (D : Dn K mg "_law_plain" s__law_plain ["triple"] f fd) (z_list : mg "list" = none) (z_range : mg "range" = none) : FnG P w K mg base cm 1 f fd ["triple"] m__law_plain := fd_ok D.F (N := ["triple", "signs", "word", "twisted", "first", "sides", "most", "turn", "one", "two"]) sc__law_plain fun cdv A outer s H E hr => by
  have S := sc__law_plain
  have hu := hu_of hr
  have hv := hr.units
  have hc : (cxOf CX0 P w K mg base ["triple", "signs", "word", "twisted", "first", "sides", "most", "turn", "one", "two"] "_law_plain" (defScope s__law_plain) f cdv A outer s H E).nox.calm = true := rfl
  exact (fss_cons (fs_pars3 (i := 1) (j := 2) (l := 3) hc S.nd rfl rfl rfl (by decide) (by decide) (by decide) (fm_cons (fn_ct (call_listX hc) rc_listX rfl z_list (by decide +kernel) (fa_cons (fe_str (s := [97, 98, 99, 100, 101, 102, 103, 104, 105, 106, 107, 108]) (by decide +kernel)) fa_nil)) (fm_cons (fn_val (fe_str (s := []) (by decide +kernel))) (fm_cons (fn_val (fe_str (s := []) (by decide +kernel))) fm_nil))) rfl rfl rfl)
    (fss_cons (fs_tgt (fe_keep (pv 0)) (fg_tup hc (fgs_cons (fg_name (pg_name (i := 4) S.nd rfl (by first | exact .inl rfl | exact .inr rfl))) (fgs_cons (fg_name (pg_name (i := 5) S.nd rfl (by first | exact .inl rfl | exact .inr rfl))) (fgs_cons (fg_name (pg_name (i := 6) S.nd rfl (by first | exact .inl rfl | exact .inr rfl))) fgs_nil)))))
    (fss_cons (fs_for PassesOwn.never hc (fi_rng1 rfl z_range (fa_cons (fe_if (fb_cmp (op_eqD hv) ro_eq (fe_var (pv 5)) fe_int (nomark _)) (fe_op op_fdivW ro_div (fe_var (pv 6)) fe_int) (fe_var (pv 6))) fa_nil)) (fg_name (pg_name (i := 7) S.nd rfl (by first | exact .inl rfl | exact .inr rfl))) (fss_cons (fs_asg (i := 8) S.nd rfl (by first | exact .inl rfl | exact .inr rfl) (fn_val (fe_mt PySem.F.slot_list_pop PySem.F.type_list_pop mt_popAt rm_popAt (pv 1) (fa_cons fe_int fa_nil))))
    (fss_one (fs_if (fb_cmp (op_eqD hv) ro_eq (fe_var (pv 5)) fe_int (nomark _)) (fss_cons (fs_asg (i := 9) S.nd rfl (by first | exact .inl rfl | exact .inr rfl) (fn_val (fe_mt PySem.F.slot_list_pop PySem.F.type_list_pop mt_popAt rm_popAt (pv 1) (fa_cons fe_int fa_nil))))
    (fss_one (fs_asg (i := 2) S.nd rfl (by first | exact .inl rfl | exact .inr rfl) (fn_val (fe_op op_addA ro_add (fe_op op_addA ro_add (fe_op op_addA ro_add (fe_op op_addA ro_add (fe_var (pv 2)) (fe_var (pv 8))) (fe_var (pv 9))) (fe_var (pv 8))) (fe_var (pv 9))))))) (fss_one (fs_pars2 (i := 2) (j := 3) hc S.nd rfl rfl (by decide) (fm_cons (fn_val (fe_op op_addA ro_add (fe_op op_addA ro_add (fe_var (pv 2)) (fe_var (pv 8))) (fe_var (pv 8)))) (fm_cons (fn_val (fe_op op_addA ro_add (fe_var (pv 3)) (fe_var (pv 8)))) fm_nil)) rfl rfl))))))
    (fss_cons (fs_for PassesOwn.never hc (fi_rng1 rfl z_range (fa_cons (fe_op op_sub ro_sub (fe_var (pv 4)) fe_int) fa_nil)) (fg_name (pg_name (i := 7) S.nd rfl (by first | exact .inl rfl | exact .inr rfl))) (fss_cons (fs_asg (i := 8) S.nd rfl (by first | exact .inl rfl | exact .inr rfl) (fn_val (fe_mt PySem.F.slot_list_pop PySem.F.type_list_pop mt_popAt rm_popAt (pv 1) (fa_cons fe_int fa_nil))))
    (fss_one (fs_asg (i := 2) S.nd rfl (by first | exact .inl rfl | exact .inr rfl) (fn_val (fe_op op_addA ro_add (fe_op op_addA ro_add (fe_var (pv 2)) (fe_var (pv 8))) (fe_var (pv 8))))))))
    (fss_one (fs_ret (fn_val (fe_tup (fa_cons (fe_keep (pv 2)) (fa_cons (fe_keep (pv 3)) fa_nil))))))))))
abbrev s__law_same : Stmt := top 64
theorem sc__law_same : FnScope ["told", "due", "at"] ["told", "due"] (defScope s__law_same) := ⟨rfl, rfl, rfl, by decide +kernel, rfl, by decide +kernel, by decide +kernel⟩
def e__law_same_1 (r : Rho → Option (T × Rho)) : Em := (eFrz (nCall 2 r (aCons (eIx (eVar 0) (eVar 2)) (aCons (eIx (eVar 1) (eVar 2)) aNil))))
def b__law_same (r : Rho → Option (T × Rho)) : Sm := (sSeq (sIf (bOf (eIsi "tuple" (eVar 1))) (sSeq (sIf (bOr (bNot (bOf (eIsi "tuple" (eVar 0)))) (bOf (eOp cNe (eCb cLen (aCons (eVar 0) aNil)) (eCb cLen (aCons (eVar 1) aNil))))) (sRet (nVal (eC (.bl false)))) sNil)
    (sRet (nVal (eCb cAll (aCons (eFrz (nLc [2] (iRng1 (aCons (eCb cLen (aCons (eVar 1) aNil)) aNil)) (hName 2) bYes (e__law_same_1 r))) aNil))))) sNil)
    (sSeq (sIf (bOr (bOf (eOp isD (eVar 1) (eC .non))) (bOr (bOf (eOp isD (eVar 1) (eC (.bl true)))) (bOf (eOp isD (eVar 1) (eC (.bl false)))))) (sRet (nVal (eOr (eAnd (eOp isD (eVar 1) (eC .non)) (eOp isD (eVar 0) (eC .non))) (eOr (eAnd (eOp isD (eVar 1) (eC (.bl true))) (eOp isD (eVar 0) (eC (.bl true)))) (eAnd (eOp isD (eVar 1) (eC (.bl false))) (eOp isD (eVar 0) (eC (.bl false)))))))) sNil)
    (sSeq (sIf (bOf (eIsi "int" (eVar 1))) (sRet (nVal (eAnd (eIsi "int" (eVar 0)) (eAnd (eNot (eIsi "bool" (eVar 0))) (eOp cEq (eVar 0) (eVar 1)))))) sNil)
    (sRet (nVal (eAnd (eIsi "str" (eVar 0)) (eOp cEq (eVar 0) (eVar 1))))))))
def m__law_same : Nat → Rho → Option (T × Rho)
  | 0 => fun _ => none
  | n + 1 => runD 1 (b__law_same (m__law_same n))
theorem w__law_same (D : Dn K mg "_law_same" s__law_same ["told", "due"] f fd) (z_all : mg "all" = none) (z_bool : mg "bool" = none) (z_int : mg "int" = none) (z_isinstance : mg "isinstance" = none) (z_len : mg "len" = none) (z_range : mg "range" = none) (z_str : mg "str" = none) (z_tuple : mg "tuple" = none) : ∀ n : Nat, FnG P w K mg base cm (0 + n) f fd ["told", "due"] (m__law_same n)
  | 0 => fd_none
  | n + 1 => by
    have d__law_same : Dg P w K mg base cm (0 + n) "_law_same" ["told", "due"] (m__law_same n) := D.mk' <| w__law_same D  z_all z_bool z_int z_isinstance z_len z_range z_str z_tuple n
    exact fd_ok D.F (N := ["told", "due", "at"]) sc__law_same fun cdv A outer s H E hr => by
      have S := sc__law_same
      have hu := hu_of hr
      have hv := hr.units
      have hc : (cxOf CX0 P w K mg base ["told", "due", "at"] "_law_same" (defScope s__law_same) f cdv A outer s H E).nox.calm = true := rfl
      exact (fss_cons (fs_if (fb_val (fe_isi (T := "tuple") rfl rfl z_isinstance (by decide +kernel) (fe_var (pv 1)) (pe_bltn rfl z_tuple (by decide +kernel) rfl))) (fss_cons (fs_if (fb_w (fw_or (fb_not (fb_val (fe_isi (T := "tuple") rfl rfl z_isinstance (by decide +kernel) (fe_var (pv 0)) (pe_bltn rfl z_tuple (by decide +kernel) rfl)))) (fw_one (fb_cmp (op_neD hv) ro_ne (fe_cb call_len rc_len rfl z_len (by decide +kernel) (fa_cons (fe_var (pv 0)) fa_nil)) (fe_cb call_len rc_len rfl z_len (by decide +kernel) (fa_cons (fe_var (pv 1)) fa_nil)) (nomark _)) (by first | exact .inl rfl | exact .inr rfl)))) (fss_one (fs_ret (fn_val fe_bl))) fss_nil)
    (fss_one (fs_ret (fn_val (fe_cb (cr_all hc) rc_all rfl z_all (by decide +kernel) (fa_cons (fe_frz (fn_lc (own := [("at", 2)]) hc S.nd (fi_rng1 rfl z_range (fa_cons (fe_cb call_len rc_len rfl z_len (by decide +kernel) (fa_cons (fe_var (pv 1)) fa_nil)) fa_nil)) (blkOk_by (by rfl)) (fun _ _ _ _ _ => (fg_name (pg_name (i := 2) S.nd rfl (by first | exact .inl rfl | exact .inr rfl)))) (fun _ _ _ _ _ => fts_nil) (fun _ _ _ _ _ => (fe_frz (fn_call d__law_same hr (by first | exact Nat.le_refl _ | omega) (by rfl) (fa_cons (fe_ix hu (fe_var (pv 0)) (fe_var (pv 2))) (fa_cons (fe_ix hu (fe_var (pv 1)) (fe_var (pv 2))) fa_nil))))) (by decide))) fa_nil)))))) fss_nil)
    (fss_cons (fs_if (fb_w (fw_or (fb_cmp op_isA ro_is (fe_var (pv 1)) fe_non (nomark _)) (fw_or (fb_cmp op_isA ro_is (fe_var (pv 1)) fe_bl (nomark _)) (fw_one (fb_cmp op_isA ro_is (fe_var (pv 1)) fe_bl (nomark _)) (by first | exact .inl rfl | exact .inr rfl))))) (fss_one (fs_ret (fn_val (fe_or (fe_and (fe_cmp op_isA ro_is (fe_var (pv 1)) fe_non (nomark _)) (fe_one (fe_cmp op_isA ro_is (fe_var (pv 0)) fe_non (nomark _)))) (fe_or (fe_and (fe_cmp op_isA ro_is (fe_var (pv 1)) fe_bl (nomark _)) (fe_one (fe_cmp op_isA ro_is (fe_var (pv 0)) fe_bl (nomark _)))) (fe_one (fe_and (fe_cmp op_isA ro_is (fe_var (pv 1)) fe_bl (nomark _)) (fe_one (fe_cmp op_isA ro_is (fe_var (pv 0)) fe_bl (nomark _)))))))))) fss_nil)
    (fss_cons (fs_if (fb_val (fe_isi (T := "int") rfl rfl z_isinstance (by decide +kernel) (fe_var (pv 1)) (pe_bltn rfl z_int (by decide +kernel) rfl))) (fss_one (fs_ret (fn_val (fe_and (fe_isi (T := "int") rfl rfl z_isinstance (by decide +kernel) (fe_var (pv 0)) (pe_bltn rfl z_int (by decide +kernel) rfl)) (fe_and (fe_not (fe_isi (T := "bool") rfl rfl z_isinstance (by decide +kernel) (fe_var (pv 0)) (pe_bltn rfl z_bool (by decide +kernel) rfl))) (fe_one (fe_cmp (op_eqD hv) ro_eq (fe_var (pv 0)) (fe_var (pv 1)) (nomark _)))))))) fss_nil)
    (fss_one (fs_ret (fn_val (fe_and (fe_isi (T := "str") rfl rfl z_isinstance (by decide +kernel) (fe_var (pv 0)) (pe_bltn rfl z_str (by decide +kernel) rfl)) (fe_one (fe_cmp (op_eqD hv) ro_eq (fe_var (pv 0)) (fe_var (pv 1)) (nomark _))))))))))
abbrev s_plain_by : Stmt := top 45
theorem sc_plain_by : FnScope ["kind", "rims", "sides", "rank", "letters", "word", "crossing", "at", "letter"] ["kind"] (defScope s_plain_by) := ⟨rfl, rfl, rfl, by decide +kernel, rfl, by decide +kernel, by decide +kernel⟩
def e_plain_by_1 : Em := (eOp cMulIS (eC (.int 2)) (eSl (eVar 4) (oSome (eVar 7)) (oSome (eOp cAdd (eVar 7) (eC (.int 2))))))
def e_plain_by_2 : Em := (eOp cMulIS (eC (.int 2)) (eVar 8))
def e_plain_by_3 : Em := (eOp cMulIS (eC (.int 2)) (eVar 8))
def b_plain_by : Sm := (sSeq (sT (eKeep 0) (hTup 3 (hCons (hName 1) (hCons (hName 2) (hCons (hName 3) hNil)))))
    (sSeq (sAsg 4 (nVal (eSl (eC c_LETTERS) oNone (oSome (eFrz (nCall 1 m_bands_of (aCons (eKeep 0) aNil)))))))
    (sSeq (sIf (bOf (eOp cEq (eVar 2) (eC c_TWO_SIDES))) (sAsg 6 (nVal (eJoin (eC (.str [])) (eFrz (nLc [7] (iRng3M (aCons (eC (.int 0)) (aCons (eVar 3) (aCons (eC (.int 2)) aNil)))) (hName 7) bYes e_plain_by_1))))) (sAsg 6 (nVal (eJoin (eC (.str [])) (eFrz (nLc [8] (iSeq (eSl (eVar 4) oNone (oSome (eVar 3)))) (hName 8) bYes e_plain_by_2))))))
    (sSeq (sAsg 5 (nVal (eOp cAdd (eVar 6) (eJoin (eC (.str [])) (eFrz (nLc [8] (iSeq (eSl (eVar 4) (oSome (eVar 3)) oNone)) (hName 8) bYes e_plain_by_3))))))
    (sRet (nVal (eTup (aCons (eKeep 5) (aCons (eIf (bOf (eOp cEq (eVar 2) (eC c_ONE_SIDE))) (eSl (eVar 4) oNone (oSome (eVar 3))) (eC (.str []))) aNil)))))))))
def m_plain_by : Rho → Option (T × Rho) := runD 8 b_plain_by
theorem w_plain_by (D : Dn K mg "plain_by" s_plain_by ["kind"] f fd) (d_bands_of : Dg P w K mg base cm 1 "bands_of" ["kind"] m_bands_of) (z_range : mg "range" = none) (k_LETTERS : KC K cm mg "LETTERS" c_LETTERS) (k_ONE_SIDE : KC K cm mg "ONE_SIDE" c_ONE_SIDE) (k_TWO_SIDES : KC K cm mg "TWO_SIDES" c_TWO_SIDES) : FnG P w K mg base cm 2 f fd ["kind"] m_plain_by := fd_ok D.F (N := ["kind", "rims", "sides", "rank", "letters", "word", "crossing", "at", "letter"]) sc_plain_by fun cdv A outer s H E hr => by
  have S := sc_plain_by
  have hu := hu_of hr
  have hv := hr.units
  have hc : (cxOf CX0 P w K mg base ["kind", "rims", "sides", "rank", "letters", "word", "crossing", "at", "letter"] "plain_by" (defScope s_plain_by) f cdv A outer s H E).nox.calm = true := rfl
  exact (fss_cons (fs_tgt (fe_keep (pv 0)) (fg_tup hc (fgs_cons (fg_name (pg_name (i := 1) S.nd rfl (by first | exact .inl rfl | exact .inr rfl))) (fgs_cons (fg_name (pg_name (i := 2) S.nd rfl (by first | exact .inl rfl | exact .inr rfl))) (fgs_cons (fg_name (pg_name (i := 3) S.nd rfl (by first | exact .inl rfl | exact .inr rfl))) fgs_nil)))))
    (fss_cons (fs_asg (i := 4) S.nd rfl (by first | exact .inl rfl | exact .inr rfl) (fn_val (fe_sl (KC.fe k_LETTERS rfl) fo_none (fo_some (fe_frz (fn_call d_bands_of hr (by decide) (by rfl) (fa_cons (fe_keep (pv 0)) fa_nil)))))))
    (fss_cons (fs_if (fb_cmp (op_eqD hv) ro_eq (fe_var (pv 2)) (KC.fe k_TWO_SIDES rfl) (nomark _)) (fss_one (fs_asg (i := 6) S.nd rfl (by first | exact .inl rfl | exact .inr rfl) (fn_val (fe_join (fe_str (s := []) (by decide +kernel)) (fe_frz (fn_lc (own := [("at", 7)]) hc S.nd (fi_rng3 rfl z_range (fa_cons fe_int (fa_cons (fe_var (pv 3)) (fa_cons fe_int fa_nil)))) (blkOk_by (by rfl)) (fun _ _ _ _ _ => (fg_name (pg_name (i := 7) S.nd rfl (by first | exact .inl rfl | exact .inr rfl)))) (fun _ _ _ _ _ => fts_nil) (fun _ _ _ _ _ => (fe_op op_mulIS ro_mulIS fe_int (fe_sl (fe_var (pv 4)) (fo_some (fe_var (pv 7))) (fo_some (fe_op op_addA ro_add (fe_var (pv 7)) fe_int))))) (by decide))))))) (fss_one (fs_asg (i := 6) S.nd rfl (by first | exact .inl rfl | exact .inr rfl) (fn_val (fe_join (fe_str (s := []) (by decide +kernel)) (fe_frz (fn_lc (own := [("letter", 8)]) hc S.nd (fi_seq (fe_sl (fe_var (pv 4)) fo_none (fo_some (fe_var (pv 3))))) (blkOk_by (by rfl)) (fun _ _ _ _ _ => (fg_name (pg_name (i := 8) S.nd rfl (by first | exact .inl rfl | exact .inr rfl)))) (fun _ _ _ _ _ => fts_nil) (fun _ _ _ _ _ => (fe_op op_mulIS ro_mulIS fe_int (fe_var (pv 8)))) (by decide))))))))
    (fss_cons (fs_asg (i := 5) S.nd rfl (by first | exact .inl rfl | exact .inr rfl) (fn_val (fe_op op_addA ro_add (fe_var (pv 6)) (fe_join (fe_str (s := []) (by decide +kernel)) (fe_frz (fn_lc (own := [("letter", 8)]) hc S.nd (fi_seq (fe_sl (fe_var (pv 4)) (fo_some (fe_var (pv 3))) fo_none)) (blkOk_by (by rfl)) (fun _ _ _ _ _ => (fg_name (pg_name (i := 8) S.nd rfl (by first | exact .inl rfl | exact .inr rfl)))) (fun _ _ _ _ _ => fts_nil) (fun _ _ _ _ _ => (fe_op op_mulIS ro_mulIS fe_int (fe_var (pv 8)))) (by decide)))))))
    (fss_one (fs_ret (fn_val (fe_tup (fa_cons (fe_keep (pv 5)) (fa_cons (fe_if (fb_cmp (op_eqD hv) ro_eq (fe_var (pv 2)) (KC.fe k_ONE_SIDE rfl) (nomark _)) (fe_sl (fe_var (pv 4)) fo_none (fo_some (fe_var (pv 3)))) (fe_str (s := []) (by decide +kernel))) fa_nil))))))))))
abbrev s_plain_form : Stmt := top 52
theorem sc_plain_form : FnScope ["triple"] ["triple"] (defScope s_plain_form) := ⟨rfl, rfl, rfl, by decide +kernel, rfl, by decide +kernel, by decide +kernel⟩
def b_plain_form : Sm := (sSeq (sIf (bNot (bOf (eFrz (nCall 1 m_is_kinded (aCons (eKeep 0) aNil))))) sNever sNil)
    (sRet (nCall 1 m_plain_by (aCons (eKeep 0) aNil))))
def m_plain_form : Rho → Option (T × Rho) := runD 0 b_plain_form
theorem w_plain_form (D : Dn K mg "plain_form" s_plain_form ["triple"] f fd) (d_is_kinded : Dg P w K mg base cm 3 "is_kinded" ["value"] m_is_kinded) (d_plain_by : Dg P w K mg base cm 2 "plain_by" ["kind"] m_plain_by) : FnG P w K mg base cm 4 f fd ["triple"] m_plain_form := fd_ok D.F (N := ["triple"]) sc_plain_form fun cdv A outer s H E hr => by
  have S := sc_plain_form
  have hu := hu_of hr
  have hv := hr.units
  have hc : (cxOf CX0 P w K mg base ["triple"] "plain_form" (defScope s_plain_form) f cdv A outer s H E).nox.calm = true := rfl
  exact (fss_cons (fs_if (fb_not (fb_val (fe_frz (fn_call d_is_kinded hr (by decide) (by rfl) (fa_cons (fe_keep (pv 0)) fa_nil))))) (fss_one fs_never) fss_nil)
    (fss_one (fs_ret (fn_call d_plain_by hr (by decide) (by rfl) (fa_cons (fe_keep (pv 0)) fa_nil)))))
abbrev s_is_text_of : Stmt := top 11
theorem sc_is_text_of : FnScope ["value", "signs", "sign"] ["value", "signs"] (defScope s_is_text_of) := ⟨rfl, rfl, rfl, by decide +kernel, rfl, by decide +kernel, by decide +kernel⟩
def e_is_text_of_1 : Em := (eOp cInA (eVar 2) (eVar 1))
def b_is_text_of : Sm := (sRet (nVal (eAnd (eIsi "str" (eVar 0)) (eCb cAll (aCons (eFrz (nLc [2] (iSeq (eKeep 0)) (hName 2) bYes e_is_text_of_1)) aNil)))))
def m_is_text_of : Rho → Option (T × Rho) := runD 1 b_is_text_of
theorem w_is_text_of (D : Dn K mg "is_text_of" s_is_text_of ["value", "signs"] f fd) (z_all : mg "all" = none) (z_isinstance : mg "isinstance" = none) (z_str : mg "str" = none) : FnG P w K mg base cm 1 f fd ["value", "signs"] m_is_text_of := fd_ok D.F (N := ["value", "signs", "sign"]) sc_is_text_of fun cdv A outer s H E hr => by
  have S := sc_is_text_of
  have hu := hu_of hr
  have hv := hr.units
  have hc : (cxOf CX0 P w K mg base ["value", "signs", "sign"] "is_text_of" (defScope s_is_text_of) f cdv A outer s H E).nox.calm = true := rfl
  exact (fss_one (fs_ret (fn_val (fe_and (fe_isi (T := "str") rfl rfl z_isinstance (by decide +kernel) (fe_var (pv 0)) (pe_bltn rfl z_str (by decide +kernel) rfl)) (fe_one (fe_cb (cr_all hc) rc_all rfl z_all (by decide +kernel) (fa_cons (fe_frz (fn_lc (own := [("sign", 2)]) hc S.nd (fi_seq (fe_keep (pv 0))) (blkOk_by (by rfl)) (fun _ _ _ _ _ => (fg_name (pg_name (i := 2) S.nd rfl (by first | exact .inl rfl | exact .inr rfl)))) (fun _ _ _ _ _ => fts_nil) (fun _ _ _ _ _ => (fe_cmp op_inA ro_in (fe_var (pv 2)) (fe_var (pv 1)) (by with_unfolding_all rfl))) (by decide))) fa_nil)))))))
abbrev s_is_worded : Stmt := top 16
theorem sc_is_worded : FnScope ["value", "letter"] ["value"] (defScope s_is_worded) := ⟨rfl, rfl, rfl, by decide +kernel, rfl, by decide +kernel, by decide +kernel⟩
def e_is_worded_1 : Em := (eOp cInA (eTm cCount (eVar 0) (eVar 1)) (eTup (aCons (eC (.int 0)) (aCons (eC (.int 2)) aNil))))
def b_is_worded : Sm := (sRet (nVal (eAnd (eFrz (nCall 2 m_is_text_of (aCons (eKeep 0) (aCons (eC c_LETTERS) aNil)))) (eCb cAll (aCons (eFrz (nLc [1] (iSeq (eC c_LETTERS)) (hName 1) bYes e_is_worded_1)) aNil)))))
def m_is_worded : Rho → Option (T × Rho) := runD 1 b_is_worded
theorem w_is_worded (D : Dn K mg "is_worded" s_is_worded ["value"] f fd) (d_is_text_of : Dg P w K mg base cm 1 "is_text_of" ["value", "signs"] m_is_text_of) (z_all : mg "all" = none) (k_LETTERS : KC K cm mg "LETTERS" c_LETTERS) : FnG P w K mg base cm 2 f fd ["value"] m_is_worded := fd_ok D.F (N := ["value", "letter"]) sc_is_worded fun cdv A outer s H E hr => by
  have S := sc_is_worded
  have hu := hu_of hr
  have hv := hr.units
  have hc : (cxOf CX0 P w K mg base ["value", "letter"] "is_worded" (defScope s_is_worded) f cdv A outer s H E).nox.calm = true := rfl
  exact (fss_one (fs_ret (fn_val (fe_and (fe_frz (fn_call d_is_text_of hr (by decide) (by rfl) (fa_cons (fe_keep (pv 0)) (fa_cons (KC.fe k_LETTERS rfl) fa_nil)))) (fe_one (fe_cb (cr_all hc) rc_all rfl z_all (by decide +kernel) (fa_cons (fe_frz (fn_lc (own := [("letter", 1)]) hc S.nd (fi_seq (KC.fe k_LETTERS rfl)) (blkOk_by (by rfl)) (fun _ _ _ _ _ => (fg_name (pg_name (i := 1) S.nd rfl (by first | exact .inl rfl | exact .inr rfl)))) (fun _ _ _ _ _ => fts_nil) (fun _ _ _ _ _ => (fe_cmp op_inA ro_in (fe_tm PySem.F.slot_str_count PySem.F.type_str_count mt_count rt_count (fe_var (pv 0)) (fe_var (pv 1))) (fe_tup (fa_cons fe_int (fa_cons fe_int fa_nil))) (by with_unfolding_all rfl))) (by decide))) fa_nil)))))))
abbrev s_is_ascending : Stmt := top 12
theorem sc_is_ascending : FnScope ["row", "one", "two"] ["row"] (defScope s_is_ascending) := ⟨rfl, rfl, rfl, by decide +kernel, rfl, by decide +kernel, by decide +kernel⟩
def e_is_ascending_1 : Em := (eOp cLt (eVar 1) (eVar 2))
def b_is_ascending : Sm := (sRet (nVal (eCb cAll (aCons (eFrz (nLc [1, 2] (iOr (iZiA (aCons (eKeep 0) (aCons (eSl (eVar 0) (oSome (eC (.int 1))) oNone) aNil))) (iZi2 (aCons (eKeep 0) (aCons (eSl (eVar 0) (oSome (eC (.int 1))) oNone) aNil)))) (hTup 2 (hCons (hName 1) (hCons (hName 2) hNil))) bYes e_is_ascending_1)) aNil))))
def m_is_ascending : Rho → Option (T × Rho) := runD 2 b_is_ascending
theorem w_is_ascending (D : Dn K mg "is_ascending" s_is_ascending ["row"] f fd) (z_all : mg "all" = none) (z_zip : mg "zip" = none) : FnG P w K mg base cm 1 f fd ["row"] m_is_ascending := fd_ok D.F (N := ["row", "one", "two"]) sc_is_ascending fun cdv A outer s H E hr => by
  have S := sc_is_ascending
  have hu := hu_of hr
  have hv := hr.units
  have hc : (cxOf CX0 P w K mg base ["row", "one", "two"] "is_ascending" (defScope s_is_ascending) f cdv A outer s H E).nox.calm = true := rfl
  exact (fss_one (fs_ret (fn_val (fe_cb (cr_all hc) rc_all rfl z_all (by decide +kernel) (fa_cons (fe_frz (fn_lc (own := [("one", 1), ("two", 2)]) hc S.nd (fi_or (fi_ziA rfl z_zip (fa_cons (fe_keep (pv 0)) (fa_cons (fe_sl (fe_var (pv 0)) (fo_some fe_int) fo_none) fa_nil))) (fi_zi2 rfl z_zip (fa_cons (fe_keep (pv 0)) (fa_cons (fe_sl (fe_var (pv 0)) (fo_some fe_int) fo_none) fa_nil)))) (blkOk_by (by rfl)) (fun _ _ _ _ _ => (fg_tup hc (fgs_cons (fg_name (pg_name (i := 1) S.nd rfl (by first | exact .inl rfl | exact .inr rfl))) (fgs_cons (fg_name (pg_name (i := 2) S.nd rfl (by first | exact .inl rfl | exact .inr rfl))) fgs_nil)))) (fun _ _ _ _ _ => fts_nil) (fun _ _ _ _ _ => (fe_cmp op_ltA ro_lt (fe_var (pv 1)) (fe_var (pv 2)) (nomark _))) (by decide))) fa_nil)))))
abbrev s_is_lot_of : Stmt := top 18
theorem sc_is_lot_of : FnScope ["word", "value"] ["word", "value"] (defScope s_is_lot_of) := ⟨rfl, rfl, rfl, by decide +kernel, rfl, by decide +kernel, by decide +kernel⟩
def b_is_lot_of : Sm := (sRet (nVal (eAnd (eFrz (nCall 2 m_is_text_of (aCons (eKeep 1) (aCons (eKeep 0) aNil)))) (eFrz (nCall 1 m_is_ascending (aCons (eKeep 1) aNil))))))
def m_is_lot_of : Rho → Option (T × Rho) := runD 0 b_is_lot_of
theorem w_is_lot_of (D : Dn K mg "is_lot_of" s_is_lot_of ["word", "value"] f fd) (d_is_text_of : Dg P w K mg base cm 1 "is_text_of" ["value", "signs"] m_is_text_of) (d_is_ascending : Dg P w K mg base cm 1 "is_ascending" ["row"] m_is_ascending) : FnG P w K mg base cm 2 f fd ["word", "value"] m_is_lot_of := fd_ok D.F (N := ["word", "value"]) sc_is_lot_of fun cdv A outer s H E hr => by
  have S := sc_is_lot_of
  have hu := hu_of hr
  have hv := hr.units
  have hc : (cxOf CX0 P w K mg base ["word", "value"] "is_lot_of" (defScope s_is_lot_of) f cdv A outer s H E).nox.calm = true := rfl
  exact (fss_one (fs_ret (fn_val (fe_and (fe_frz (fn_call d_is_text_of hr (by decide) (by rfl) (fa_cons (fe_keep (pv 1)) (fa_cons (fe_keep (pv 0)) fa_nil)))) (fe_one (fe_frz (fn_call d_is_ascending hr (by decide) (by rfl) (fa_cons (fe_keep (pv 1)) fa_nil))))))))
abbrev s_is_sewn : Stmt := top 23
theorem sc_is_sewn : FnScope ["value"] ["value"] (defScope s_is_sewn) := ⟨rfl, rfl, rfl, by decide +kernel, rfl, by decide +kernel, by decide +kernel⟩
def b_is_sewn : Sm := (sRet (nVal (eAnd (eFrz (nCall 2 m_is_tuple_of (aCons (eKeep 0) (aCons (eC (.int 2)) aNil)))) (eAnd (eFrz (nCall 1 m_is_worded (aCons (eIx (eVar 0) (eC (.int 0))) aNil))) (eFrz (nCall 2 m_is_lot_of (aCons (eIx (eVar 0) (eC (.int 0))) (aCons (eIx (eVar 0) (eC (.int 1))) aNil))))))))
def m_is_sewn : Rho → Option (T × Rho) := runD 0 b_is_sewn
theorem w_is_sewn (D : Dn K mg "is_sewn" s_is_sewn ["value"] f fd) (d_is_tuple_of : Dg P w K mg base cm 1 "is_tuple_of" ["value", "many"] m_is_tuple_of) (d_is_worded : Dg P w K mg base cm 2 "is_worded" ["value"] m_is_worded) (d_is_lot_of : Dg P w K mg base cm 2 "is_lot_of" ["word", "value"] m_is_lot_of) : FnG P w K mg base cm 3 f fd ["value"] m_is_sewn := fd_ok D.F (N := ["value"]) sc_is_sewn fun cdv A outer s H E hr => by
  have S := sc_is_sewn
  have hu := hu_of hr
  have hv := hr.units
  have hc : (cxOf CX0 P w K mg base ["value"] "is_sewn" (defScope s_is_sewn) f cdv A outer s H E).nox.calm = true := rfl
  exact (fss_one (fs_ret (fn_val (fe_and (fe_frz (fn_call d_is_tuple_of hr (by decide) (by rfl) (fa_cons (fe_keep (pv 0)) (fa_cons fe_int fa_nil)))) (fe_and (fe_frz (fn_call d_is_worded hr (by decide) (by rfl) (fa_cons (fe_ix hu (fe_var (pv 0)) fe_int) fa_nil))) (fe_one (fe_frz (fn_call d_is_lot_of hr (by decide) (by rfl) (fa_cons (fe_ix hu (fe_var (pv 0)) fe_int) (fa_cons (fe_ix hu (fe_var (pv 0)) fe_int) fa_nil))))))))))
abbrev s_is_sewing : Stmt := top 57
theorem sc_is_sewing : FnScope ["value"] ["value"] (defScope s_is_sewing) := ⟨rfl, rfl, rfl, by decide +kernel, rfl, by decide +kernel, by decide +kernel⟩
def b_is_sewing : Sm := (sRet (nCall 1 m_is_sewn (aCons (eKeep 0) aNil)))
def m_is_sewing : Rho → Option (T × Rho) := runD 0 b_is_sewing
theorem w_is_sewing (D : Dn K mg "is_sewing" s_is_sewing ["value"] f fd) (d_is_sewn : Dg P w K mg base cm 3 "is_sewn" ["value"] m_is_sewn) : FnG P w K mg base cm 4 f fd ["value"] m_is_sewing := fd_ok D.F (N := ["value"]) sc_is_sewing fun cdv A outer s H E hr => by
  have S := sc_is_sewing
  have hu := hu_of hr
  have hv := hr.units
  have hc : (cxOf CX0 P w K mg base ["value"] "is_sewing" (defScope s_is_sewing) f cdv A outer s H E).nox.calm = true := rfl
  exact (fss_one (fs_ret (fn_call d_is_sewn hr (by decide) (by rfl) (fa_cons (fe_keep (pv 0)) fa_nil))))
abbrev s_check_sewing : Stmt := top 48
theorem sc_check_sewing : FnScope ["sewing"] ["sewing"] (defScope s_check_sewing) := ⟨rfl, rfl, rfl, by decide +kernel, rfl, by decide +kernel, by decide +kernel⟩
def b_check_sewing : Sm := (sIf (bNot (bOf (eFrz (nCall 1 m_is_sewn (aCons (eKeep 0) aNil))))) sNever sNil)
def m_check_sewing : Rho → Option (T × Rho) := runD 0 b_check_sewing
theorem w_check_sewing (D : Dn K mg "check_sewing" s_check_sewing ["sewing"] f fd) (d_is_sewn : Dg P w K mg base cm 3 "is_sewn" ["value"] m_is_sewn) : FnG P w K mg base cm 4 f fd ["sewing"] m_check_sewing := fd_ok D.F (N := ["sewing"]) sc_check_sewing fun cdv A outer s H E hr => by
  have S := sc_check_sewing
  have hu := hu_of hr
  have hv := hr.units
  have hc : (cxOf CX0 P w K mg base ["sewing"] "check_sewing" (defScope s_check_sewing) f cdv A outer s H E).nox.calm = true := rfl
  exact (fss_one (fs_if (fb_not (fb_val (fe_frz (fn_call d_is_sewn hr (by decide) (by rfl) (fa_cons (fe_keep (pv 0)) fa_nil))))) (fss_one fs_never) fss_nil))
abbrev s_letters_by : Stmt := top 17
theorem sc_letters_by : FnScope ["word"] ["word"] (defScope s_letters_by) := ⟨rfl, rfl, rfl, by decide +kernel, rfl, by decide +kernel, by decide +kernel⟩
def b_letters_by : Sm := (sRet (nVal (eJoin (eC (.str [])) (eFrz (nSset (eVar 0))))))
def m_letters_by : Rho → Option (T × Rho) := runD 0 b_letters_by
theorem w_letters_by (D : Dn K mg "letters_by" s_letters_by ["word"] f fd) (z_set : mg "set" = none) (z_sorted : mg "sorted" = none) : FnG P w K mg base cm 1 f fd ["word"] m_letters_by := fd_ok D.F (N := ["word"]) sc_letters_by fun cdv A outer s H E hr => by
  have S := sc_letters_by
  have hu := hu_of hr
  have hv := hr.units
  have hc : (cxOf CX0 P w K mg base ["word"] "letters_by" (defScope s_letters_by) f cdv A outer s H E).nox.calm = true := rfl
  exact (fss_one (fs_ret (fn_val (fe_join (fe_str (s := []) (by decide +kernel)) (fe_frz (fn_sset hc rfl z_sorted rfl z_set (fe_var (pv 0))))))))
abbrev s_ends_by : Stmt := top 19
theorem sc_ends_by : FnScope ["word", "letter"] ["word"] (defScope s_ends_by) := ⟨rfl, rfl, rfl, by decide +kernel, rfl, by decide +kernel, by decide +kernel⟩
def e_ends_by_1 : Em := (eTup (aCons (eTm cIndex (eVar 0) (eVar 1)) (aCons (eTm cRindex (eVar 0) (eVar 1)) aNil)))
def b_ends_by : Sm := (sRet (nDc [1] (iSeq (eFrz (nCall 1 m_letters_by (aCons (eKeep 0) aNil)))) (hName 1) bYes (eVar 1) e_ends_by_1))
def m_ends_by : Rho → Option (T × Rho) := runD 1 b_ends_by
theorem w_ends_by (D : Dn K mg "ends_by" s_ends_by ["word"] f fd) (d_letters_by : Dg P w K mg base cm 1 "letters_by" ["word"] m_letters_by) : FnG P w K mg base cm 2 f fd ["word"] m_ends_by := fd_ok D.F (N := ["word", "letter"]) sc_ends_by fun cdv A outer s H E hr => by
  have S := sc_ends_by
  have hu := hu_of hr
  have hv := hr.units
  have hc : (cxOf CX0 P w K mg base ["word", "letter"] "ends_by" (defScope s_ends_by) f cdv A outer s H E).nox.calm = true := rfl
  exact (fss_one (fs_ret (fn_dc (own := [("letter", 1)]) hc S.nd (fi_seq (fe_frz (fn_call d_letters_by hr (by decide) (by rfl) (fa_cons (fe_keep (pv 0)) fa_nil)))) (blkOk_by (by rfl)) (fun _ _ _ _ _ => (fg_name (pg_name (i := 1) S.nd rfl (by first | exact .inl rfl | exact .inr rfl)))) (fun _ _ _ _ _ => fts_nil) (fun _ _ _ _ _ => (fe_var (pv 1))) (fun _ _ _ _ _ => (fe_tup (fa_cons (fe_tm PySem.F.slot_str_index PySem.F.type_str_index mt_sindex rt_index (fe_var (pv 0)) (fe_var (pv 1))) (fa_cons (fe_tm PySem.F.slot_str_rindex PySem.F.type_str_rindex mt_rix rt_rindex (fe_var (pv 0)) (fe_var (pv 1))) fa_nil)))) (by decide))))
abbrev s_partners_by : Stmt := top 20
theorem sc_partners_by : FnScope ["word", "ends", "at", "sign"] ["word"] (defScope s_partners_by) := ⟨rfl, rfl, rfl, by decide +kernel, rfl, by decide +kernel, by decide +kernel⟩
def e_partners_by_1 : Em := (eOp cSub (eCb cSumX (aCons (eIx (eVar 1) (eVar 3)) aNil)) (eVar 2))
def b_partners_by : Sm := (sSeq (sAsg 1 (nCall 1 m_ends_by (aCons (eKeep 0) aNil)))
    (sRet (nLc [2, 3] (iOr (iEnu (aCons (eKeep 0) aNil)) (iEnS (aCons (eKeep 0) aNil))) (hTup 2 (hCons (hName 2) (hCons (hName 3) hNil))) bYes e_partners_by_1)))
def m_partners_by : Rho → Option (T × Rho) := runD 3 b_partners_by
theorem w_partners_by (D : Dn K mg "partners_by" s_partners_by ["word"] f fd) (d_ends_by : Dg P w K mg base cm 2 "ends_by" ["word"] m_ends_by) (z_enumerate : mg "enumerate" = none) (z_sum : mg "sum" = none) : FnG P w K mg base cm 3 f fd ["word"] m_partners_by := fd_ok D.F (N := ["word", "ends", "at", "sign"]) sc_partners_by fun cdv A outer s H E hr => by
  have S := sc_partners_by
  have hu := hu_of hr
  have hv := hr.units
  have hc : (cxOf CX0 P w K mg base ["word", "ends", "at", "sign"] "partners_by" (defScope s_partners_by) f cdv A outer s H E).nox.calm = true := rfl
  exact (fss_cons (fs_asg (i := 1) S.nd rfl (by first | exact .inl rfl | exact .inr rfl) (fn_call d_ends_by hr (by decide) (by rfl) (fa_cons (fe_keep (pv 0)) fa_nil)))
    (fss_one (fs_ret (fn_lc (own := [("at", 2), ("sign", 3)]) hc S.nd (fi_or (fi_enum rfl z_enumerate (fa_cons (fe_keep (pv 0)) fa_nil)) (fi_enS rfl z_enumerate (fa_cons (fe_keep (pv 0)) fa_nil))) (blkOk_by (by rfl)) (fun _ _ _ _ _ => (fg_tup hc (fgs_cons (fg_name (pg_name (i := 2) S.nd rfl (by first | exact .inl rfl | exact .inr rfl))) (fgs_cons (fg_name (pg_name (i := 3) S.nd rfl (by first | exact .inl rfl | exact .inr rfl))) fgs_nil)))) (fun _ _ _ _ _ => fts_nil) (fun _ _ _ _ _ => (fe_op op_sub ro_sub (fe_cb (cr_sumX hc) rc_sumX rfl z_sum (by decide +kernel) (fa_cons (fe_ix hu (fe_var (pv 1)) (fe_var (pv 3))) fa_nil)) (fe_var (pv 2)))) (by decide)))))
abbrev s_Bands___init__ : Stmt := mth 26 0
theorem sc_Bands___init__ : FnScope ["self", "sewing", "word", "twisted", "sign"] ["self", "sewing"] (defScope s_Bands___init__) := ⟨rfl, rfl, rfl, by decide +kernel, rfl, by decide +kernel, by decide +kernel⟩
def e_Bands___init___1 : Em := (eOp cInA (eVar 4) (eVar 3))
def b_Bands___init__ : Sm := (sSeq (sT (eKeep 1) (hTup 2 (hCons (hName 2) (hCons (hName 3) hNil))))
    (sSeq (sFldM 0 0 "many" (nVal (eCb cLen (aCons (eVar 2) aNil))))
    (sSeq (sFldM 0 0 "partners" (nCall 1 m_partners_by (aCons (eKeep 2) aNil)))
    (sFldM 0 0 "twists" (nLc [4] (iSeq (eKeep 2)) (hName 4) bYes e_Bands___init___1)))))
def m_Bands___init__ : Rho → Option (T × Rho) := runD 3 b_Bands___init__
theorem w_Bands___init__ (D : Di K mg (cm.c 0) "Bands" "Bands.__init__" s_Bands___init__ ["self", "sewing"] f fd) (d_partners_by : Dg P w K mg base cm 3 "partners_by" ["word"] m_partners_by) (z_len : mg "len" = none) (C_Bands : Cls K (cm.c 0)) (n_Bands_many : NoAttr K (cm.c 0) "many") (n_Bands_partners : NoAttr K (cm.c 0) "partners") (n_Bands_twists : NoAttr K (cm.c 0) "twists") : FnG P w K mg base cm 4 f fd ["self", "sewing"] m_Bands___init__ := fd_ok D.F (N := ["self", "sewing", "word", "twisted", "sign"]) sc_Bands___init__ fun cdv A outer s H E hr => by
  have S := sc_Bands___init__
  have hu := hu_of hr
  have hv := hr.units
  have hc : (cxOf CX0 P w K mg base ["self", "sewing", "word", "twisted", "sign"] "Bands.__init__" (defScope s_Bands___init__) f cdv A outer s H E).nox.calm = true := rfl
  exact (fss_cons (fs_tgt (fe_keep (pv 1)) (fg_tup hc (fgs_cons (fg_name (pg_name (i := 2) S.nd rfl (by first | exact .inl rfl | exact .inr rfl))) (fgs_cons (fg_name (pg_name (i := 3) S.nd rfl (by first | exact .inl rfl | exact .inr rfl))) fgs_nil))))
    (fss_cons (fs_fld (pv 0) (fn_val (fe_cb call_len rc_len rfl z_len (by decide +kernel) (fa_cons (fe_var (pv 2)) fa_nil))) C_Bands n_Bands_many)
    (fss_cons (fs_fld (pv 0) (fn_call d_partners_by hr (by decide) (by rfl) (fa_cons (fe_keep (pv 2)) fa_nil)) C_Bands n_Bands_partners)
    (fss_one (fs_fld (pv 0) (fn_lc (own := [("sign", 4)]) hc S.nd (fi_seq (fe_keep (pv 2))) (blkOk_by (by rfl)) (fun _ _ _ _ _ => (fg_name (pg_name (i := 4) S.nd rfl (by first | exact .inl rfl | exact .inr rfl)))) (fun _ _ _ _ _ => fts_nil) (fun _ _ _ _ _ => (fe_cmp op_inA ro_in (fe_var (pv 4)) (fe_var (pv 3)) (by with_unfolding_all rfl))) (by decide)) C_Bands n_Bands_twists)))))
abbrev s_Bands_behind : Stmt := mth 26 1
theorem sc_Bands_behind : FnScope ["self", "end", "way"] ["self", "end", "way"] (defScope s_Bands_behind) := ⟨rfl, rfl, rfl, by decide +kernel, rfl, by decide +kernel, by decide +kernel⟩
def b_Bands_behind : Sm := (sRet (nVal (eTup (aCons (eIx (eFld 0 "partners" (eVar 0)) (eVar 1)) (aCons (eIf (bOf (eIx (eFld 0 "twists" (eVar 0)) (eVar 1))) (eUn cNeg (eVar 2)) (eKeep 2)) aNil)))))
def m_Bands_behind : Rho → Option (T × Rho) := runD 0 b_Bands_behind
theorem w_Bands_behind (D : Dm K (cm.c 0) "behind" "Bands.behind" s_Bands_behind ["self", "end", "way"] f fd) (C_Bands : Cls K (cm.c 0)) (n_Bands_partners : NoAttr K (cm.c 0) "partners") (n_Bands_twists : NoAttr K (cm.c 0) "twists") : FnG P w K mg base cm 1 f fd ["self", "end", "way"] m_Bands_behind := fd_ok D.F (N := ["self", "end", "way"]) sc_Bands_behind fun cdv A outer s H E hr => by
  have S := sc_Bands_behind
  have hu := hu_of hr
  have hv := hr.units
  have hc : (cxOf CX0 P w K mg base ["self", "end", "way"] "Bands.behind" (defScope s_Bands_behind) f cdv A outer s H E).nox.calm = true := rfl
  exact (fss_one (fs_ret (fn_val (fe_tup (fa_cons (fe_ix hu (fe_fld (fe_var (pv 0)) C_Bands n_Bands_partners) (fe_var (pv 1))) (fa_cons (fe_if (fb_val (fe_ix hu (fe_fld (fe_var (pv 0)) C_Bands n_Bands_twists) (fe_var (pv 1)))) (fe_neg (fe_var (pv 2))) (fe_keep (pv 2))) fa_nil))))))
abbrev s_Bands_end_met : Stmt := mth 26 2
theorem sc_Bands_end_met : FnScope ["self", "gap", "way"] ["self", "gap", "way"] (defScope s_Bands_end_met) := ⟨rfl, rfl, rfl, by decide +kernel, rfl, by decide +kernel, by decide +kernel⟩
def b_Bands_end_met : Sm := (sRet (nIf (bOf (eOp cEq (eVar 2) (eC c_FORWARD))) (nVal (eOp cMod (eOp cAdd (eVar 1) (eC (.int 1))) (eFld 0 "many" (eVar 0)))) (nMove 1)))
def m_Bands_end_met : Rho → Option (T × Rho) := runD 0 b_Bands_end_met
theorem w_Bands_end_met (D : Dm K (cm.c 0) "end_met" "Bands.end_met" s_Bands_end_met ["self", "gap", "way"] f fd) (k_FORWARD : KC K cm mg "FORWARD" c_FORWARD) (C_Bands : Cls K (cm.c 0)) (n_Bands_many : NoAttr K (cm.c 0) "many") : FnG P w K mg base cm 1 f fd ["self", "gap", "way"] m_Bands_end_met := fd_ok D.F (N := ["self", "gap", "way"]) sc_Bands_end_met fun cdv A outer s H E hr => by
  have S := sc_Bands_end_met
  have hu := hu_of hr
  have hv := hr.units
  have hc : (cxOf CX0 P w K mg base ["self", "gap", "way"] "Bands.end_met" (defScope s_Bands_end_met) f cdv A outer s H E).nox.calm = true := rfl
  exact (fss_one (fs_ret (fn_if (fb_cmp (op_eqD hv) ro_eq (fe_var (pv 2)) (KC.fe k_FORWARD rfl) (nomark _)) (fn_val (fe_op op_mod ro_mod (fe_op op_addA ro_add (fe_var (pv 1)) fe_int) (fe_fld (fe_var (pv 0)) C_Bands n_Bands_many))) (fn_move (pv 1)))))
abbrev s_Bands_next_gap : Stmt := mth 26 3
theorem sc_Bands_next_gap : FnScope ["self", "gap", "way", "there", "onward"] ["self", "gap", "way"] (defScope s_Bands_next_gap) := ⟨rfl, rfl, rfl, by decide +kernel, rfl, by decide +kernel, by decide +kernel⟩
def b_Bands_next_gap : Sm := (sSeq (sT (eFrz (nMeth 0 "behind" 3 m_Bands_behind (eVar 0) (aCons (eFrz (nMeth 0 "end_met" 3 m_Bands_end_met (eVar 0) (aCons (eKeep 1) (aCons (eKeep 2) aNil)))) (aCons (eKeep 2) aNil)))) (hTup 2 (hCons (hName 3) (hCons (hName 4) hNil))))
    (sRet (nIf (bOf (eOp cEq (eVar 4) (eC c_FORWARD))) (nVal (eTup (aCons (eKeep 3) (aCons (eKeep 4) aNil)))) (nVal (eTup (aCons (eOp cMod (eOp cSub (eVar 3) (eC (.int 1))) (eFld 0 "many" (eVar 0))) (aCons (eKeep 4) aNil)))))))
def m_Bands_next_gap : Rho → Option (T × Rho) := runD 2 b_Bands_next_gap
theorem w_Bands_next_gap (D : Dm K (cm.c 0) "next_gap" "Bands.next_gap" s_Bands_next_gap ["self", "gap", "way"] f fd) (d_Bands_behind : Mg P w K mg base (cm.c 0) 1 cm "behind" ["self", "end", "way"] m_Bands_behind) (d_Bands_end_met : Mg P w K mg base (cm.c 0) 1 cm "end_met" ["self", "gap", "way"] m_Bands_end_met) (k_FORWARD : KC K cm mg "FORWARD" c_FORWARD) (C_Bands : Cls K (cm.c 0)) (n_Bands_many : NoAttr K (cm.c 0) "many") : FnG P w K mg base cm 2 f fd ["self", "gap", "way"] m_Bands_next_gap := fd_ok D.F (N := ["self", "gap", "way", "there", "onward"]) sc_Bands_next_gap fun cdv A outer s H E hr => by
  have S := sc_Bands_next_gap
  have hu := hu_of hr
  have hv := hr.units
  have hc : (cxOf CX0 P w K mg base ["self", "gap", "way", "there", "onward"] "Bands.next_gap" (defScope s_Bands_next_gap) f cdv A outer s H E).nox.calm = true := rfl
  exact (fss_cons (fs_tgt (fe_frz (fn_meth d_Bands_behind C_Bands hr (by decide) (fe_var (pv 0)) (fa_cons (fe_frz (fn_meth d_Bands_end_met C_Bands hr (by decide) (fe_var (pv 0)) (fa_cons (fe_keep (pv 1)) (fa_cons (fe_keep (pv 2)) fa_nil)))) (fa_cons (fe_keep (pv 2)) fa_nil)))) (fg_tup hc (fgs_cons (fg_name (pg_name (i := 3) S.nd rfl (by first | exact .inl rfl | exact .inr rfl))) (fgs_cons (fg_name (pg_name (i := 4) S.nd rfl (by first | exact .inl rfl | exact .inr rfl))) fgs_nil))))
    (fss_one (fs_ret (fn_if (fb_cmp (op_eqD hv) ro_eq (fe_var (pv 4)) (KC.fe k_FORWARD rfl) (nomark _)) (fn_val (fe_tup (fa_cons (fe_keep (pv 3)) (fa_cons (fe_keep (pv 4)) fa_nil)))) (fn_val (fe_tup (fa_cons (fe_op op_mod ro_mod (fe_op op_sub ro_sub (fe_var (pv 3)) fe_int) (fe_fld (fe_var (pv 0)) C_Bands n_Bands_many)) (fa_cons (fe_keep (pv 4)) fa_nil))))))))
abbrev s_Bands_rim_from : Stmt := mth 26 4
theorem sc_Bands_rim_from : FnScope ["self", "gap", "found", "here"] ["self", "gap"] (defScope s_Bands_rim_from) := ⟨rfl, rfl, rfl, by decide +kernel, rfl, by decide +kernel, by decide +kernel⟩
def t_Bands_rim_from_1 : Bm := (bOf (eOp cNe (eVar 3) (eIx (eVar 2) (eC (.int 0)))))
def l_Bands_rim_from_2 : Sm := (sSeq (sE (eMt 2 mApp (aCons (eKeep 3) aNil)))
    (sAsg 3 (nMeth 0 "next_gap" 3 m_Bands_next_gap (eVar 0) (aCons (eIx (eVar 3) (eC (.int 0))) (aCons (eIx (eVar 3) (eC (.int 1))) aNil)))))
def b_Bands_rim_from : Sm := (sSeq (sAsg 2 (nLst (aCons (eTup (aCons (eKeep 1) (aCons (eC c_FORWARD) aNil))) aNil)))
    (sSeq (sAsg 3 (nMeth 0 "next_gap" 3 m_Bands_next_gap (eVar 0) (aCons (eKeep 1) (aCons (eC c_FORWARD) aNil))))
    (sSeq (whileF t_Bands_rim_from_1 l_Bands_rim_from_2 fuel)
    (sRet (nVal (eCb cTuple (aCons (eVar 2) aNil)))))))
def m_Bands_rim_from : Rho → Option (T × Rho) := runD 2 b_Bands_rim_from
theorem w_Bands_rim_from (D : Dm K (cm.c 0) "rim_from" "Bands.rim_from" s_Bands_rim_from ["self", "gap"] f fd) (d_Bands_next_gap : Mg P w K mg base (cm.c 0) 2 cm "next_gap" ["self", "gap", "way"] m_Bands_next_gap) (z_tuple : mg "tuple" = none) (k_FORWARD : KC K cm mg "FORWARD" c_FORWARD) (C_Bands : Cls K (cm.c 0)) : FnG P w K mg base cm 3 f fd ["self", "gap"] m_Bands_rim_from := fd_ok D.F (N := ["self", "gap", "found", "here"]) sc_Bands_rim_from fun cdv A outer s H E hr => by
  have S := sc_Bands_rim_from
  have hu := hu_of hr
  have hv := hr.units
  have hc : (cxOf CX0 P w K mg base ["self", "gap", "found", "here"] "Bands.rim_from" (defScope s_Bands_rim_from) f cdv A outer s H E).nox.calm = true := rfl
  exact (fss_cons (fs_asg (i := 2) S.nd rfl (by first | exact .inl rfl | exact .inr rfl) (fn_lst (fa_cons (fe_tup (fa_cons (fe_keep (pv 1)) (fa_cons (KC.fe k_FORWARD rfl) fa_nil))) fa_nil)))
    (fss_cons (fs_asg (i := 3) S.nd rfl (by first | exact .inl rfl | exact .inr rfl) (fn_meth d_Bands_next_gap C_Bands hr (by decide) (fe_var (pv 0)) (fa_cons (fe_keep (pv 1)) (fa_cons (KC.fe k_FORWARD rfl) fa_nil))))
    (fss_cons (fs_while (N := fuel) PassesOwn.never (fb_cmp (op_neD hv) ro_ne (fe_var (pv 3)) (fe_ix hu (fe_var (pv 2)) fe_int) (nomark _)) (fss_cons (fs_expr (fe_mt PySem.F.slot_list_append PySem.F.type_list_append mt_append rm_app (pv 2) (fa_cons (fe_keep (pv 3)) fa_nil)))
    (fss_one (fs_asg (i := 3) S.nd rfl (by first | exact .inl rfl | exact .inr rfl) (fn_meth d_Bands_next_gap C_Bands hr (by decide) (fe_var (pv 0)) (fa_cons (fe_ix hu (fe_var (pv 3)) fe_int) (fa_cons (fe_ix hu (fe_var (pv 3)) fe_int) fa_nil)))))))
    (fss_one (fs_ret (fn_val (fe_ct call_tuple_of rc_tuple rfl z_tuple (by decide +kernel) (fa_cons (fe_var (pv 2)) fa_nil))))))))
abbrev s_rims_by : Stmt := top 27
theorem sc_rims_by : FnScope ["sewing", "bands", "found", "known", "gap", "each", "way"] ["sewing"] (defScope s_rims_by) := ⟨rfl, rfl, rfl, by decide +kernel, rfl, by decide +kernel, by decide +kernel⟩
def e_rims_by_1 : Em := (eC (.bl true))
def l_rims_by_2 : Sm := (sIf (bOf (eOp cNiD (eVar 4) (eVar 3))) (sSeq (sE (eMt 2 mApp (aCons (eFrz (nMeth 0 "rim_from" 2 m_Bands_rim_from (eVar 1) (aCons (eKeep 4) aNil))) aNil)))
    (sE (eUpd 3 (nDc [5, 6] (iSeq (eIx (eVar 2) (eUn cNeg (eC (.int 1))))) (hTup 2 (hCons (hName 5) (hCons (hName 6) hNil))) bYes (eVar 5) e_rims_by_1)))) sNil)
def b_rims_by : Sm := (sSeq (sAsg 1 (nVal (eFrz (nMakeO 0 2 m_Bands___init__ (aCons (eKeep 0) aNil)))))
    (sSeq (sIf (bOf (eOp cEq (eFld 0 "many" (eVar 1)) (eC (.int 0)))) (sRet (nLst (aCons (eTup aNil) aNil))) sNil)
    (sSeq (sPars [2, 3] (mCons (nLst aNil) (mCons nDic0 mNil)))
    (sSeq (sFor (iRng1 (aCons (eFld 0 "many" (eVar 1)) aNil)) (hName 4) l_rims_by_2)
    (sRet (nMove 2))))))
def m_rims_by : Rho → Option (T × Rho) := runD 6 b_rims_by
theorem w_rims_by (D : Dn K mg "rims_by" s_rims_by ["sewing"] f fd) (d_Bands___init__ : Mi P w K mg base (cm.c 0) 4 cm "Bands" ["self", "sewing"] m_Bands___init__) (d_Bands_rim_from : Mg P w K mg base (cm.c 0) 3 cm "rim_from" ["self", "gap"] m_Bands_rim_from) (z_range : mg "range" = none) (C_Bands : Cls K (cm.c 0)) (n_Bands_many : NoAttr K (cm.c 0) "many") : FnG P w K mg base cm 6 f fd ["sewing"] m_rims_by := fd_ok D.F (N := ["sewing", "bands", "found", "known", "gap", "each", "way"]) sc_rims_by fun cdv A outer s H E hr => by
  have S := sc_rims_by
  have hu := hu_of hr
  have hv := hr.units
  have hc : (cxOf CX0 P w K mg base ["sewing", "bands", "found", "known", "gap", "each", "way"] "rims_by" (defScope s_rims_by) f cdv A outer s H E).nox.calm = true := rfl
  exact (fss_cons (fs_asg (i := 1) S.nd rfl (by first | exact .inl rfl | exact .inr rfl) (fn_val (fe_frz (fn_make (c := 0) d_Bands___init__ hr (by decide) (by rfl) (fa_cons (fe_keep (pv 0)) fa_nil)))))
    (fss_cons (fs_if (fb_cmp (op_eqD hv) ro_eq (fe_fld (fe_var (pv 1)) C_Bands n_Bands_many) fe_int (nomark _)) (fss_one (fs_ret (fn_lst (fa_cons (fe_tup fa_nil) fa_nil)))) fss_nil)
    (fss_cons (fs_pars2 (i := 2) (j := 3) hc S.nd rfl rfl (by decide) (fm_cons (fn_lst fa_nil) (fm_cons fn_dic0 fm_nil)) rfl rfl)
    (fss_cons (fs_for PassesOwn.never hc (fi_rng1 rfl z_range (fa_cons (fe_fld (fe_var (pv 1)) C_Bands n_Bands_many) fa_nil)) (fg_name (pg_name (i := 4) S.nd rfl (by first | exact .inl rfl | exact .inr rfl))) (fss_one (fs_if (fb_cmp (op_niDict hu) ro_niDict (fe_var (pv 4)) (fe_var (pv 3)) (by with_unfolding_all rfl)) (fss_cons (fs_expr (fe_mt PySem.F.slot_list_append PySem.F.type_list_append mt_append rm_app (pv 2) (fa_cons (fe_frz (fn_meth d_Bands_rim_from C_Bands hr (by decide) (fe_var (pv 1)) (fa_cons (fe_keep (pv 4)) fa_nil))) fa_nil)))
    (fss_one (fs_expr (fe_upd (pv 3) (fn_dc (own := [("each", 5), ("way", 6)]) hc S.nd (fi_seq (fe_ix hu (fe_var (pv 2)) (fe_neg fe_int))) (blkOk_by (by rfl)) (fun _ _ _ _ _ => (fg_tup hc (fgs_cons (fg_name (pg_name (i := 5) S.nd rfl (by first | exact .inl rfl | exact .inr rfl))) (fgs_cons (fg_name (pg_name (i := 6) S.nd rfl (by first | exact .inl rfl | exact .inr rfl))) fgs_nil)))) (fun _ _ _ _ _ => fts_nil) (fun _ _ _ _ _ => (fe_var (pv 5))) (fun _ _ _ _ _ => fe_bl) (by decide)))))) fss_nil)))
    (fss_one (fs_ret (fn_move (pv 2))))))))
abbrev s_rim_count_by : Stmt := top 28
theorem sc_rim_count_by : FnScope ["sewing"] ["sewing"] (defScope s_rim_count_by) := ⟨rfl, rfl, rfl, by decide +kernel, rfl, by decide +kernel, by decide +kernel⟩
def b_rim_count_by : Sm := (sRet (nVal (eCb cLen (aCons (eFrz (nCall 1 m_rims_by (aCons (eKeep 0) aNil))) aNil))))
def m_rim_count_by : Rho → Option (T × Rho) := runD 0 b_rim_count_by
theorem w_rim_count_by (D : Dn K mg "rim_count_by" s_rim_count_by ["sewing"] f fd) (d_rims_by : Dg P w K mg base cm 6 "rims_by" ["sewing"] m_rims_by) (z_len : mg "len" = none) : FnG P w K mg base cm 7 f fd ["sewing"] m_rim_count_by := fd_ok D.F (N := ["sewing"]) sc_rim_count_by fun cdv A outer s H E hr => by
  have S := sc_rim_count_by
  have hu := hu_of hr
  have hv := hr.units
  have hc : (cxOf CX0 P w K mg base ["sewing"] "rim_count_by" (defScope s_rim_count_by) f cdv A outer s H E).nox.calm = true := rfl
  exact (fss_one (fs_ret (fn_val (fe_cb call_len rc_len rfl z_len (by decide +kernel) (fa_cons (fe_frz (fn_call d_rims_by hr (by decide) (by rfl) (fa_cons (fe_keep (pv 0)) fa_nil))) fa_nil)))))
abbrev s_sides_by : Stmt := top 40
theorem sc_sides_by : FnScope ["sewing"] ["sewing"] (defScope s_sides_by) := ⟨rfl, rfl, rfl, by decide +kernel, rfl, by decide +kernel, by decide +kernel⟩
def b_sides_by : Sm := (sRet (nIf (bOf (eOp cNe (eIx (eVar 0) (eC (.int 1))) (eC (.str [])))) (nVal (eC c_ONE_SIDE)) (nVal (eC c_TWO_SIDES))))
def m_sides_by : Rho → Option (T × Rho) := runD 0 b_sides_by
theorem w_sides_by (D : Dn K mg "sides_by" s_sides_by ["sewing"] f fd) (k_ONE_SIDE : KC K cm mg "ONE_SIDE" c_ONE_SIDE) (k_TWO_SIDES : KC K cm mg "TWO_SIDES" c_TWO_SIDES) : FnG P w K mg base cm 1 f fd ["sewing"] m_sides_by := fd_ok D.F (N := ["sewing"]) sc_sides_by fun cdv A outer s H E hr => by
  have S := sc_sides_by
  have hu := hu_of hr
  have hv := hr.units
  have hc : (cxOf CX0 P w K mg base ["sewing"] "sides_by" (defScope s_sides_by) f cdv A outer s H E).nox.calm = true := rfl
  exact (fss_one (fs_ret (fn_if (fb_cmp (op_neD hv) ro_ne (fe_ix hu (fe_var (pv 0)) fe_int) (fe_str (s := []) (by decide +kernel)) (nomark _)) (fn_val (KC.fe k_ONE_SIDE rfl)) (fn_val (KC.fe k_TWO_SIDES rfl)))))
abbrev s_lead_of : Stmt := top 31
theorem sc_lead_of : FnScope ["row"] ["row"] (defScope s_lead_of) := ⟨rfl, rfl, rfl, by decide +kernel, rfl, by decide +kernel, by decide +kernel⟩
def b_lead_of : Sm := (sRet (nVal (eOp cSub (eUn cBits (eVar 0)) (eC (.int 1)))))
def m_lead_of : Rho → Option (T × Rho) := runD 0 b_lead_of
theorem w_lead_of (D : Dn K mg "lead_of" s_lead_of ["row"] f fd)  : FnG P w K mg base cm 1 f fd ["row"] m_lead_of := fd_ok D.F (N := ["row"]) sc_lead_of fun cdv A outer s H E hr => by
  have S := sc_lead_of
  have hu := hu_of hr
  have hv := hr.units
  have hc : (cxOf CX0 P w K mg base ["row"] "lead_of" (defScope s_lead_of) f cdv A outer s H E).nox.calm = true := rfl
  exact (fss_one (fs_ret (fn_val (fe_op op_sub ro_sub (fe_bits (fe_var (pv 0))) fe_int))))
abbrev s_taken_down : Stmt := top 32
theorem sc_taken_down : FnScope ["row", "leads"] ["row", "leads"] (defScope s_taken_down) := ⟨rfl, rfl, rfl, by decide +kernel, rfl, by decide +kernel, by decide +kernel⟩
def t_taken_down_1 : Bm := (bAnd (bOf (eOp cNe (eVar 0) (eC (.int 0)))) (bOf (eOp cInD (eFrz (nCall 1 m_lead_of (aCons (eKeep 0) aNil))) (eVar 1))))
def l_taken_down_2 : Sm := (sAsg 0 (nVal (eOp cXor (eVar 0) (eIx (eVar 1) (eFrz (nCall 1 m_lead_of (aCons (eKeep 0) aNil)))))))
def b_taken_down : Sm := (sSeq (whileF t_taken_down_1 l_taken_down_2 fuel)
    (sRet (nMove 0)))
def m_taken_down : Rho → Option (T × Rho) := runD 0 b_taken_down
theorem w_taken_down (D : Dn K mg "taken_down" s_taken_down ["row", "leads"] f fd) (d_lead_of : Dg P w K mg base cm 1 "lead_of" ["row"] m_lead_of) : FnG P w K mg base cm 2 f fd ["row", "leads"] m_taken_down := fd_ok D.F (N := ["row", "leads"]) sc_taken_down fun cdv A outer s H E hr => by
  have S := sc_taken_down
  have hu := hu_of hr
  have hv := hr.units
  have hc : (cxOf CX0 P w K mg base ["row", "leads"] "taken_down" (defScope s_taken_down) f cdv A outer s H E).nox.calm = true := rfl
  exact (fss_cons (fs_while (N := fuel) PassesOwn.never (fb_w (fw_and (fb_cmp (op_neD hv) ro_ne (fe_var (pv 0)) fe_int (nomark _)) (fw_one (fb_cmp (op_inDict hu) ro_inDict (fe_frz (fn_call d_lead_of hr (by decide) (by rfl) (fa_cons (fe_keep (pv 0)) fa_nil))) (fe_var (pv 1)) (by with_unfolding_all rfl)) (by first | exact .inl rfl | exact .inr rfl)))) (fss_one (fs_asg (i := 0) S.nd rfl (by first | exact .inl rfl | exact .inr rfl) (fn_val (fe_op op_xor ro_xor (fe_var (pv 0)) (fe_ix hu (fe_var (pv 1)) (fe_frz (fn_call d_lead_of hr (by decide) (by rfl) (fa_cons (fe_keep (pv 0)) fa_nil)))))))))
    (fss_one (fs_ret (fn_move (pv 0)))))
abbrev s_rank_of : Stmt := top 33
theorem sc_rank_of : FnScope ["rows", "leads", "row", "left"] ["rows"] (defScope s_rank_of) := ⟨rfl, rfl, rfl, by decide +kernel, rfl, by decide +kernel, by decide +kernel⟩
def l_rank_of_1 : Sm := (sSeq (sAsg 3 (nCallO 2 1 m_taken_down (aCons (eKeep 2) (aCons (eVar 1) aNil))))
    (sIf (bOf (eOp cNe (eVar 3) (eC (.int 0)))) (sPut 1 (eKeep 3) (eFrz (nCall 1 m_lead_of (aCons (eKeep 3) aNil)))) sNil))
def b_rank_of : Sm := (sSeq (sAsg 1 nDic0)
    (sSeq (sFor (iSeq (eKeep 0)) (hName 2) l_rank_of_1)
    (sRet (nVal (eCb cLenD (aCons (eVar 1) aNil))))))
def m_rank_of : Rho → Option (T × Rho) := runD 3 b_rank_of
theorem w_rank_of (D : Dn K mg "rank_of" s_rank_of ["rows"] f fd) (d_taken_down : Dg P w K mg base cm 2 "taken_down" ["row", "leads"] m_taken_down) (d_lead_of : Dg P w K mg base cm 1 "lead_of" ["row"] m_lead_of) (z_len : mg "len" = none) : FnG P w K mg base cm 3 f fd ["rows"] m_rank_of := fd_ok D.F (N := ["rows", "leads", "row", "left"]) sc_rank_of fun cdv A outer s H E hr => by
  have S := sc_rank_of
  have hu := hu_of hr
  have hv := hr.units
  have hc : (cxOf CX0 P w K mg base ["rows", "leads", "row", "left"] "rank_of" (defScope s_rank_of) f cdv A outer s H E).nox.calm = true := rfl
  exact (fss_cons (fs_asg (i := 1) S.nd rfl (by first | exact .inl rfl | exact .inr rfl) fn_dic0)
    (fss_cons (fs_for PassesOwn.never hc (fi_seq (fe_keep (pv 0))) (fg_name (pg_name (i := 2) S.nd rfl (by first | exact .inl rfl | exact .inr rfl))) (fss_cons (fs_asg (i := 3) S.nd rfl (by first | exact .inl rfl | exact .inr rfl) (fn_callO (j0 := 1) d_taken_down hr (by decide) (by rfl) (fa_cons (fe_keep (pv 2)) (fa_cons (fe_var (pv 1)) fa_nil))))
    (fss_one (fs_if (fb_cmp (op_neD hv) ro_ne (fe_var (pv 3)) fe_int (nomark _)) (fss_one (fs_put (i := 1) hu (pv 1) (fe_frz (fn_call d_lead_of hr (by decide) (by rfl) (fa_cons (fe_keep (pv 3)) fa_nil))) (fe_keep (pv 3)))) fss_nil))))
    (fss_one (fs_ret (fn_val (fe_cb cr_lenDk rc_lenDk rfl z_len (by decide +kernel) (fa_cons (fe_var (pv 1)) fa_nil)))))))
abbrev s_do_alternate : Stmt := top 21
theorem sc_do_alternate : FnScope ["one", "two"] ["one", "two"] (defScope s_do_alternate) := ⟨rfl, rfl, rfl, by decide +kernel, rfl, by decide +kernel, by decide +kernel⟩
def b_do_alternate : Sm := (sRet (nVal (eOr (eChain3 cLt cLt cLt (eIx (eVar 0) (eC (.int 0))) (eIx (eVar 1) (eC (.int 0))) (eIx (eVar 0) (eC (.int 1))) (eIx (eVar 1) (eC (.int 1)))) (eChain3 cLt cLt cLt (eIx (eVar 1) (eC (.int 0))) (eIx (eVar 0) (eC (.int 0))) (eIx (eVar 1) (eC (.int 1))) (eIx (eVar 0) (eC (.int 1)))))))
def m_do_alternate : Rho → Option (T × Rho) := runD 0 b_do_alternate
theorem w_do_alternate (D : Dn K mg "do_alternate" s_do_alternate ["one", "two"] f fd)  : FnG P w K mg base cm 1 f fd ["one", "two"] m_do_alternate := fd_ok D.F (N := ["one", "two"]) sc_do_alternate fun cdv A outer s H E hr => by
  have S := sc_do_alternate
  have hu := hu_of hr
  have hv := hr.units
  have hc : (cxOf CX0 P w K mg base ["one", "two"] "do_alternate" (defScope s_do_alternate) f cdv A outer s H E).nox.calm = true := rfl
  exact (fss_one (fs_ret (fn_val (fe_or (fe_chain3 op_ltA op_ltA op_ltA ro_lt ro_lt ro_lt (fe_ix hu (fe_var (pv 0)) fe_int) (fe_ix hu (fe_var (pv 1)) fe_int) (fe_ix hu (fe_var (pv 0)) fe_int) (fe_ix hu (fe_var (pv 1)) fe_int)) (fe_one (fe_chain3 op_ltA op_ltA op_ltA ro_lt ro_lt ro_lt (fe_ix hu (fe_var (pv 1)) fe_int) (fe_ix hu (fe_var (pv 0)) fe_int) (fe_ix hu (fe_var (pv 1)) fe_int) (fe_ix hu (fe_var (pv 0)) fe_int)))))))
abbrev s_near_by : Stmt := top 22
theorem sc_near_by : FnScope ["word", "ends", "letter", "each"] ["word"] (defScope s_near_by) := ⟨rfl, rfl, rfl, by decide +kernel, rfl, by decide +kernel, by decide +kernel⟩
def e_near_by_1 : Em := (eKeep 3)
def e_near_by_2 : Em := (eJoin (eC (.str [])) (eFrz (nLc [3] (iKey 1) (hName 3) (bOf (eFrz (nCall 2 m_do_alternate (aCons (eIx (eVar 1) (eVar 2)) (aCons (eIx (eVar 1) (eVar 3)) aNil))))) e_near_by_1)))
def b_near_by : Sm := (sSeq (sAsg 1 (nCall 1 m_ends_by (aCons (eKeep 0) aNil)))
    (sRet (nDc [2] (iKey 1) (hName 2) bYes (eVar 2) e_near_by_2)))
def m_near_by : Rho → Option (T × Rho) := runD 3 b_near_by
theorem w_near_by (D : Dn K mg "near_by" s_near_by ["word"] f fd) (d_ends_by : Dg P w K mg base cm 2 "ends_by" ["word"] m_ends_by) (d_do_alternate : Dg P w K mg base cm 1 "do_alternate" ["one", "two"] m_do_alternate) : FnG P w K mg base cm 3 f fd ["word"] m_near_by := fd_ok D.F (N := ["word", "ends", "letter", "each"]) sc_near_by fun cdv A outer s H E hr => by
  have S := sc_near_by
  have hu := hu_of hr
  have hv := hr.units
  have hc : (cxOf CX0 P w K mg base ["word", "ends", "letter", "each"] "near_by" (defScope s_near_by) f cdv A outer s H E).nox.calm = true := rfl
  exact (fss_cons (fs_asg (i := 1) S.nd rfl (by first | exact .inl rfl | exact .inr rfl) (fn_call d_ends_by hr (by decide) (by rfl) (fa_cons (fe_keep (pv 0)) fa_nil)))
    (fss_one (fs_ret (fn_dcK (own := [("letter", 2)]) hc S.nd (pv 1) (blkOk_by (by rfl)) (fun _ _ _ _ _ => (fg_name (pg_name (i := 2) S.nd rfl (by first | exact .inl rfl | exact .inr rfl)))) (fun _ _ _ _ _ => fts_nil) (fun _ _ _ _ _ => (fe_var (pv 2))) (fun _ _ _ _ _ => (fe_join (fe_str (s := []) (by decide +kernel)) (fe_frz (fn_lcK (own := [("each", 3)]) hc S.nd (pv 1) (blkOk_by (by rfl)) (fun _ _ _ _ _ => (fg_name (pg_name (i := 3) S.nd rfl (by first | exact .inl rfl | exact .inr rfl)))) (fun _ _ _ _ _ => (fts_one (fb_val (fe_frz (fn_call d_do_alternate hr (by decide) (by rfl) (fa_cons (fe_ix hu (fe_var (pv 1)) (fe_var (pv 2))) (fa_cons (fe_ix hu (fe_var (pv 1)) (fe_var (pv 3))) fa_nil))))))) (fun _ _ _ _ _ => (fe_keep (pv 3))) (by decide))))) (by decide)))))
abbrev s_row_of : Stmt := top 30
theorem sc_row_of : FnScope ["places", "found", "place"] ["places"] (defScope s_row_of) := ⟨rfl, rfl, rfl, by decide +kernel, rfl, by decide +kernel, by decide +kernel⟩
def l_row_of_1 : Sm := (sAsg 1 (nVal (eOp cOr (eVar 1) (eOp cShl (eC (.int 1)) (eVar 2)))))
def b_row_of : Sm := (sSeq (sAsg 1 (nVal (eC (.int 0))))
    (sSeq (sFor (iSeq (eKeep 0)) (hName 2) l_row_of_1)
    (sRet (nMove 1))))
def m_row_of : Rho → Option (T × Rho) := runD 2 b_row_of
theorem w_row_of (D : Dn K mg "row_of" s_row_of ["places"] f fd)  : FnG P w K mg base cm 1 f fd ["places"] m_row_of := fd_ok D.F (N := ["places", "found", "place"]) sc_row_of fun cdv A outer s H E hr => by
  have S := sc_row_of
  have hu := hu_of hr
  have hv := hr.units
  have hc : (cxOf CX0 P w K mg base ["places", "found", "place"] "row_of" (defScope s_row_of) f cdv A outer s H E).nox.calm = true := rfl
  exact (fss_cons (fs_asg (i := 1) S.nd rfl (by first | exact .inl rfl | exact .inr rfl) (fn_val fe_int))
    (fss_cons (fs_for PassesOwn.never hc (fi_seq (fe_keep (pv 0))) (fg_name (pg_name (i := 2) S.nd rfl (by first | exact .inl rfl | exact .inr rfl))) (fss_one (fs_asg (i := 1) S.nd rfl (by first | exact .inl rfl | exact .inr rfl) (fn_val (fe_op op_or ro_or (fe_var (pv 1)) (fe_op op_shl ro_shl fe_int (fe_var (pv 2))))))))
    (fss_one (fs_ret (fn_move (pv 1))))))
abbrev s_rows_by : Stmt := top 35
theorem sc_rows_by : FnScope ["sewing", "word", "twisted", "letters", "near", "found", "letter", "there", "each"] ["sewing"] (defScope s_rows_by) := ⟨rfl, rfl, rfl, by decide +kernel, rfl, by decide +kernel, by decide +kernel⟩
def e_rows_by_1 : Em := (eTm cIndex (eVar 3) (eVar 8))
def l_rows_by_2 : Sm := (sSeq (sAsg 7 (nVal (eOp cAdd (eIx (eVar 4) (eVar 6)) (eIf (bOf (eOp cInA (eVar 6) (eVar 2))) (eVar 6) (eC (.str []))))))
    (sPut 5 (eFrz (nCall 1 m_row_of (aCons (eFrz (nLc [8] (iSeq (eKeep 7)) (hName 8) bYes e_rows_by_1)) aNil))) (eVar 6)))
def b_rows_by : Sm := (sSeq (sT (eKeep 0) (hTup 2 (hCons (hName 1) (hCons (hName 2) hNil))))
    (sSeq (sPars [3, 4] (mCons (nCall 1 m_letters_by (aCons (eKeep 1) aNil)) (mCons (nCall 1 m_near_by (aCons (eKeep 1) aNil)) mNil)))
    (sSeq (sAsg 5 nDic0)
    (sSeq (sFor (iSeq (eKeep 3)) (hName 6) l_rows_by_2)
    (sRet (nMove 5))))))
def m_rows_by : Rho → Option (T × Rho) := runD 8 b_rows_by
theorem w_rows_by (D : Dn K mg "rows_by" s_rows_by ["sewing"] f fd) (d_near_by : Dg P w K mg base cm 3 "near_by" ["word"] m_near_by) (d_letters_by : Dg P w K mg base cm 1 "letters_by" ["word"] m_letters_by) (d_row_of : Dg P w K mg base cm 1 "row_of" ["places"] m_row_of) : FnG P w K mg base cm 4 f fd ["sewing"] m_rows_by := fd_ok D.F (N := ["sewing", "word", "twisted", "letters", "near", "found", "letter", "there", "each"]) sc_rows_by fun cdv A outer s H E hr => by
  have S := sc_rows_by
  have hu := hu_of hr
  have hv := hr.units
  have hc : (cxOf CX0 P w K mg base ["sewing", "word", "twisted", "letters", "near", "found", "letter", "there", "each"] "rows_by" (defScope s_rows_by) f cdv A outer s H E).nox.calm = true := rfl
  exact (fss_cons (fs_tgt (fe_keep (pv 0)) (fg_tup hc (fgs_cons (fg_name (pg_name (i := 1) S.nd rfl (by first | exact .inl rfl | exact .inr rfl))) (fgs_cons (fg_name (pg_name (i := 2) S.nd rfl (by first | exact .inl rfl | exact .inr rfl))) fgs_nil))))
    (fss_cons (fs_parsT (is := [3, 4]) hc (fm_cons (fn_call d_letters_by hr (by decide) (by rfl) (fa_cons (fe_keep (pv 1)) fa_nil)) (fm_cons (fn_call d_near_by hr (by decide) (by rfl) (fa_cons (fe_keep (pv 1)) fa_nil)) fm_nil)) (pgn_cons (pg_name (i := 3) S.nd rfl (by first | exact .inl rfl | exact .inr rfl)) (pgn_cons (pg_name (i := 4) S.nd rfl (by first | exact .inl rfl | exact .inr rfl)) pgn_nil)))
    (fss_cons (fs_asg (i := 5) S.nd rfl (by first | exact .inl rfl | exact .inr rfl) fn_dic0)
    (fss_cons (fs_for PassesOwn.never hc (fi_seq (fe_keep (pv 3))) (fg_name (pg_name (i := 6) S.nd rfl (by first | exact .inl rfl | exact .inr rfl))) (fss_cons (fs_asg (i := 7) S.nd rfl (by first | exact .inl rfl | exact .inr rfl) (fn_val (fe_op op_addA ro_add (fe_ix hu (fe_var (pv 4)) (fe_var (pv 6))) (fe_if (fb_cmp op_inA ro_in (fe_var (pv 6)) (fe_var (pv 2)) (by with_unfolding_all rfl)) (fe_var (pv 6)) (fe_str (s := []) (by decide +kernel))))))
    (fss_one (fs_put (i := 5) hu (pv 5) (fe_var (pv 6)) (fe_frz (fn_call d_row_of hr (by decide) (by rfl) (fa_cons (fe_frz (fn_lc (own := [("each", 8)]) hc S.nd (fi_seq (fe_keep (pv 7))) (blkOk_by (by rfl)) (fun _ _ _ _ _ => (fg_name (pg_name (i := 8) S.nd rfl (by first | exact .inl rfl | exact .inr rfl)))) (fun _ _ _ _ _ => fts_nil) (fun _ _ _ _ _ => (fe_tm PySem.F.slot_str_index PySem.F.type_str_index mt_sindex rt_index (fe_var (pv 3)) (fe_var (pv 8)))) (by decide))) fa_nil)))))))
    (fss_one (fs_ret (fn_move (pv 5))))))))
abbrev s_rank_by : Stmt := top 36
theorem sc_rank_by : FnScope ["sewing"] ["sewing"] (defScope s_rank_by) := ⟨rfl, rfl, rfl, by decide +kernel, rfl, by decide +kernel, by decide +kernel⟩
def b_rank_by : Sm := (sRet (nCall 1 m_rank_of (aCons (eFrz (nListV (eFrz (nCall 1 m_rows_by (aCons (eKeep 0) aNil))))) aNil)))
def m_rank_by : Rho → Option (T × Rho) := runD 0 b_rank_by
theorem w_rank_by (D : Dn K mg "rank_by" s_rank_by ["sewing"] f fd) (d_rank_of : Dg P w K mg base cm 3 "rank_of" ["rows"] m_rank_of) (d_rows_by : Dg P w K mg base cm 4 "rows_by" ["sewing"] m_rows_by) (z_list : mg "list" = none) : FnG P w K mg base cm 5 f fd ["sewing"] m_rank_by := fd_ok D.F (N := ["sewing"]) sc_rank_by fun cdv A outer s H E hr => by
  have S := sc_rank_by
  have hu := hu_of hr
  have hv := hr.units
  have hc : (cxOf CX0 P w K mg base ["sewing"] "rank_by" (defScope s_rank_by) f cdv A outer s H E).nox.calm = true := rfl
  exact (fss_one (fs_ret (fn_call d_rank_of hr (by decide) (by rfl) (fa_cons (fe_frz (fn_listV hc rfl z_list (fe_frz (fn_call d_rows_by hr (by decide) (by rfl) (fa_cons (fe_keep (pv 0)) fa_nil))))) fa_nil))))
abbrev s_kind_by : Stmt := top 41
theorem sc_kind_by : FnScope ["sewing"] ["sewing"] (defScope s_kind_by) := ⟨rfl, rfl, rfl, by decide +kernel, rfl, by decide +kernel, by decide +kernel⟩
def b_kind_by : Sm := (sRet (nVal (eTup (aCons (eFrz (nCall 1 m_rim_count_by (aCons (eKeep 0) aNil))) (aCons (eFrz (nCall 1 m_sides_by (aCons (eKeep 0) aNil))) (aCons (eFrz (nCall 1 m_rank_by (aCons (eKeep 0) aNil))) aNil))))))
def m_kind_by : Rho → Option (T × Rho) := runD 0 b_kind_by
theorem w_kind_by (D : Dn K mg "kind_by" s_kind_by ["sewing"] f fd) (d_rank_by : Dg P w K mg base cm 5 "rank_by" ["sewing"] m_rank_by) (d_sides_by : Dg P w K mg base cm 1 "sides_by" ["sewing"] m_sides_by) (d_rim_count_by : Dg P w K mg base cm 7 "rim_count_by" ["sewing"] m_rim_count_by) : FnG P w K mg base cm 8 f fd ["sewing"] m_kind_by := fd_ok D.F (N := ["sewing"]) sc_kind_by fun cdv A outer s H E hr => by
  have S := sc_kind_by
  have hu := hu_of hr
  have hv := hr.units
  have hc : (cxOf CX0 P w K mg base ["sewing"] "kind_by" (defScope s_kind_by) f cdv A outer s H E).nox.calm = true := rfl
  exact (fss_one (fs_ret (fn_val (fe_tup (fa_cons (fe_frz (fn_call d_rim_count_by hr (by decide) (by rfl) (fa_cons (fe_keep (pv 0)) fa_nil))) (fa_cons (fe_frz (fn_call d_sides_by hr (by decide) (by rfl) (fa_cons (fe_keep (pv 0)) fa_nil))) (fa_cons (fe_frz (fn_call d_rank_by hr (by decide) (by rfl) (fa_cons (fe_keep (pv 0)) fa_nil))) fa_nil)))))))
abbrev s_kind : Stmt := top 51
theorem sc_kind : FnScope ["sewing"] ["sewing"] (defScope s_kind) := ⟨rfl, rfl, rfl, by decide +kernel, rfl, by decide +kernel, by decide +kernel⟩
def b_kind : Sm := (sSeq (sE (eFrz (nCall 1 m_check_sewing (aCons (eKeep 0) aNil))))
    (sRet (nCall 1 m_kind_by (aCons (eKeep 0) aNil))))
def m_kind : Rho → Option (T × Rho) := runD 0 b_kind
theorem w_kind (D : Dn K mg "kind" s_kind ["sewing"] f fd) (d_check_sewing : Dg P w K mg base cm 4 "check_sewing" ["sewing"] m_check_sewing) (d_kind_by : Dg P w K mg base cm 8 "kind_by" ["sewing"] m_kind_by) : FnG P w K mg base cm 9 f fd ["sewing"] m_kind := fd_ok D.F (N := ["sewing"]) sc_kind fun cdv A outer s H E hr => by
  have S := sc_kind
  have hu := hu_of hr
  have hv := hr.units
  have hc : (cxOf CX0 P w K mg base ["sewing"] "kind" (defScope s_kind) f cdv A outer s H E).nox.calm = true := rfl
  exact (fss_cons (fs_expr (fe_frz (fn_call d_check_sewing hr (by decide) (by rfl) (fa_cons (fe_keep (pv 0)) fa_nil))))
    (fss_one (fs_ret (fn_call d_kind_by hr (by decide) (by rfl) (fa_cons (fe_keep (pv 0)) fa_nil)))))
abbrev s_rim_count : Stmt := top 55
theorem sc_rim_count : FnScope ["sewing"] ["sewing"] (defScope s_rim_count) := ⟨rfl, rfl, rfl, by decide +kernel, rfl, by decide +kernel, by decide +kernel⟩
def b_rim_count : Sm := (sSeq (sE (eFrz (nCall 1 m_check_sewing (aCons (eKeep 0) aNil))))
    (sRet (nCall 1 m_rim_count_by (aCons (eKeep 0) aNil))))
def m_rim_count : Rho → Option (T × Rho) := runD 0 b_rim_count
theorem w_rim_count (D : Dn K mg "rim_count" s_rim_count ["sewing"] f fd) (d_check_sewing : Dg P w K mg base cm 4 "check_sewing" ["sewing"] m_check_sewing) (d_rim_count_by : Dg P w K mg base cm 7 "rim_count_by" ["sewing"] m_rim_count_by) : FnG P w K mg base cm 8 f fd ["sewing"] m_rim_count := fd_ok D.F (N := ["sewing"]) sc_rim_count fun cdv A outer s H E hr => by
  have S := sc_rim_count
  have hu := hu_of hr
  have hv := hr.units
  have hc : (cxOf CX0 P w K mg base ["sewing"] "rim_count" (defScope s_rim_count) f cdv A outer s H E).nox.calm = true := rfl
  exact (fss_cons (fs_expr (fe_frz (fn_call d_check_sewing hr (by decide) (by rfl) (fa_cons (fe_keep (pv 0)) fa_nil))))
    (fss_one (fs_ret (fn_call d_rim_count_by hr (by decide) (by rfl) (fa_cons (fe_keep (pv 0)) fa_nil)))))
abbrev s_rank : Stmt := top 60
theorem sc_rank : FnScope ["sewing"] ["sewing"] (defScope s_rank) := ⟨rfl, rfl, rfl, by decide +kernel, rfl, by decide +kernel, by decide +kernel⟩
def b_rank : Sm := (sSeq (sE (eFrz (nCall 1 m_check_sewing (aCons (eKeep 0) aNil))))
    (sRet (nCall 1 m_rank_by (aCons (eKeep 0) aNil))))
def m_rank : Rho → Option (T × Rho) := runD 0 b_rank
theorem w_rank (D : Dn K mg "rank" s_rank ["sewing"] f fd) (d_check_sewing : Dg P w K mg base cm 4 "check_sewing" ["sewing"] m_check_sewing) (d_rank_by : Dg P w K mg base cm 5 "rank_by" ["sewing"] m_rank_by) : FnG P w K mg base cm 6 f fd ["sewing"] m_rank := fd_ok D.F (N := ["sewing"]) sc_rank fun cdv A outer s H E hr => by
  have S := sc_rank
  have hu := hu_of hr
  have hv := hr.units
  have hc : (cxOf CX0 P w K mg base ["sewing"] "rank" (defScope s_rank) f cdv A outer s H E).nox.calm = true := rfl
  exact (fss_cons (fs_expr (fe_frz (fn_call d_check_sewing hr (by decide) (by rfl) (fa_cons (fe_keep (pv 0)) fa_nil))))
    (fss_one (fs_ret (fn_call d_rank_by hr (by decide) (by rfl) (fa_cons (fe_keep (pv 0)) fa_nil)))))
abbrev s_check_word : Stmt := top 47
theorem sc_check_word : FnScope ["word"] ["word"] (defScope s_check_word) := ⟨rfl, rfl, rfl, by decide +kernel, rfl, by decide +kernel, by decide +kernel⟩
def b_check_word : Sm := (sIf (bNot (bOf (eFrz (nCall 1 m_is_worded (aCons (eKeep 0) aNil))))) sNever sNil)
def m_check_word : Rho → Option (T × Rho) := runD 0 b_check_word
theorem w_check_word (D : Dn K mg "check_word" s_check_word ["word"] f fd) (d_is_worded : Dg P w K mg base cm 2 "is_worded" ["value"] m_is_worded) : FnG P w K mg base cm 3 f fd ["word"] m_check_word := fd_ok D.F (N := ["word"]) sc_check_word fun cdv A outer s H E hr => by
  have S := sc_check_word
  have hu := hu_of hr
  have hv := hr.units
  have hc : (cxOf CX0 P w K mg base ["word"] "check_word" (defScope s_check_word) f cdv A outer s H E).nox.calm = true := rfl
  exact (fss_one (fs_if (fb_not (fb_val (fe_frz (fn_call d_is_worded hr (by decide) (by rfl) (fa_cons (fe_keep (pv 0)) fa_nil))))) (fss_one fs_never) fss_nil))
abbrev s_letters : Stmt := top 58
theorem sc_letters : FnScope ["word"] ["word"] (defScope s_letters) := ⟨rfl, rfl, rfl, by decide +kernel, rfl, by decide +kernel, by decide +kernel⟩
def b_letters : Sm := (sSeq (sE (eFrz (nCall 1 m_check_word (aCons (eKeep 0) aNil))))
    (sRet (nCall 1 m_letters_by (aCons (eKeep 0) aNil))))
def m_letters : Rho → Option (T × Rho) := runD 0 b_letters
theorem w_letters (D : Dn K mg "letters" s_letters ["word"] f fd) (d_check_word : Dg P w K mg base cm 3 "check_word" ["word"] m_check_word) (d_letters_by : Dg P w K mg base cm 1 "letters_by" ["word"] m_letters_by) : FnG P w K mg base cm 4 f fd ["word"] m_letters := fd_ok D.F (N := ["word"]) sc_letters fun cdv A outer s H E hr => by
  have S := sc_letters
  have hu := hu_of hr
  have hv := hr.units
  have hc : (cxOf CX0 P w K mg base ["word"] "letters" (defScope s_letters) f cdv A outer s H E).nox.calm = true := rfl
  exact (fss_cons (fs_expr (fe_frz (fn_call d_check_word hr (by decide) (by rfl) (fa_cons (fe_keep (pv 0)) fa_nil))))
    (fss_one (fs_ret (fn_call d_letters_by hr (by decide) (by rfl) (fa_cons (fe_keep (pv 0)) fa_nil)))))
abbrev s__law_kind_right : Stmt := top 66
theorem sc__law_kind_right : FnScope ["triple", "due", "many", "more"] ["triple"] (defScope s__law_kind_right) := ⟨rfl, rfl, rfl, by decide +kernel, rfl, by decide +kernel, by decide +kernel⟩
def b__law_kind_right : Sm := (sSeq (sAsg 1 (nCall 1 m__law_plain (aCons (eKeep 0) aNil)))
    (sSeq (sIf (bOr (bNot (bOf (eFrz (nCall 2 (m__law_same 4) (aCons (eTup (aCons (eFrz (nCall 1 m_plain_form (aCons (eKeep 0) aNil))) (aCons (eFrz (nCallK 1 [0] m_plain_form (aCons (eKeep 0) aNil))) aNil))) (aCons (eTup (aCons (eKeep 1) (aCons (eKeep 1) aNil))) aNil)))))) (bOf (eOp notD (eFrz (nCall 1 m_is_sewing (aCons (eKeep 1) aNil))) (eC (.bl true))))) (sRet (nVal (eC (.bl false)))) sNil)
    (sSeq (sAsg 2 (nVal (eOp cSub (eOp cAdd (eIx (eVar 0) (eC (.int 0))) (eIx (eVar 0) (eC (.int 2)))) (eC (.int 1)))))
    (sSeq (sIf (bNot (bOf (eFrz (nCall 2 (m__law_same 4) (aCons (eTup (aCons (eFrz (nCall 1 m_kind (aCons (eKeep 1) aNil))) (aCons (eFrz (nCall 1 m_rim_count (aCons (eKeep 1) aNil))) (aCons (eFrz (nCall 1 m_rank (aCons (eKeep 1) aNil))) (aCons (eFrz (nCall 1 m_letters (aCons (eIx (eVar 1) (eC (.int 0))) aNil))) aNil))))) (aCons (eTup (aCons (eKeep 0) (aCons (eIx (eVar 0) (eC (.int 0))) (aCons (eIx (eVar 0) (eC (.int 2))) (aCons (eSl (eC (.str [97, 98, 99, 100, 101, 102, 103, 104, 105, 106, 107, 108])) oNone (oSome (eVar 2))) aNil))))) aNil)))))) (sRet (nVal (eC (.bl false)))) sNil)
    (sSeq (sIf (bOf (eOp cLt (eVar 2) (eC (.int 12)))) (sSeq (sAsg 3 (nCall 1 m_plain_form (aCons (eTup (aCons (eOp cAdd (eIx (eVar 0) (eC (.int 0))) (eC (.int 1))) (aCons (eIx (eVar 0) (eC (.int 1))) (aCons (eIx (eVar 0) (eC (.int 2))) aNil)))) aNil)))
    (sRet (nCall 2 (m__law_same 4) (aCons (eTup (aCons (eSl (eIx (eVar 3) (eC (.int 0))) oNone (oSome (eOp cMul (eC (.int 2)) (eVar 2)))) (aCons (eIx (eVar 3) (eC (.int 1))) aNil))) (aCons (eKeep 1) aNil))))) sNil)
    (sRet (nVal (eC (.bl true)))))))))
def m__law_kind_right : Rho → Option (T × Rho) := runD 3 b__law_kind_right
theorem w__law_kind_right (D : Dn K mg "_law_kind_right" s__law_kind_right ["triple"] f fd) (d__law_plain : Dg P w K mg base cm 1 "_law_plain" ["triple"] m__law_plain) (d__law_same : Dg P w K mg base cm 4 "_law_same" ["told", "due"] (m__law_same 4)) (d_plain_form : Dg P w K mg base cm 4 "plain_form" ["triple"] m_plain_form) (d_is_sewing : Dg P w K mg base cm 4 "is_sewing" ["value"] m_is_sewing) (d_letters : Dg P w K mg base cm 4 "letters" ["word"] m_letters) (d_rank : Dg P w K mg base cm 6 "rank" ["sewing"] m_rank) (d_rim_count : Dg P w K mg base cm 8 "rim_count" ["sewing"] m_rim_count) (d_kind : Dg P w K mg base cm 9 "kind" ["sewing"] m_kind) (dk_plain_form_0 : Dk P w K mg base cm 4 "plain_form" ["triple"] ["triple"] [0] m_plain_form) : FnG P w K mg base cm 10 f fd ["triple"] m__law_kind_right := fd_ok D.F (N := ["triple", "due", "many", "more"]) sc__law_kind_right fun cdv A outer s H E hr => by
  have S := sc__law_kind_right
  have hu := hu_of hr
  have hv := hr.units
  have hc : (cxOf CX0 P w K mg base ["triple", "due", "many", "more"] "_law_kind_right" (defScope s__law_kind_right) f cdv A outer s H E).nox.calm = true := rfl
  exact (fss_cons (fs_asg (i := 1) S.nd rfl (by first | exact .inl rfl | exact .inr rfl) (fn_call d__law_plain hr (by decide) (by rfl) (fa_cons (fe_keep (pv 0)) fa_nil)))
    (fss_cons (fs_if (fb_w (fw_or (fb_not (fb_val (fe_frz (fn_call d__law_same hr (by decide) (by rfl) (fa_cons (fe_tup (fa_cons (fe_frz (fn_call d_plain_form hr (by decide) (by rfl) (fa_cons (fe_keep (pv 0)) fa_nil))) (fa_cons (fe_frz (fn_callK dk_plain_form_0 hr (by decide) (by rfl) (fk_cons (fe_keep (pv 0)) fk_nil))) fa_nil))) (fa_cons (fe_tup (fa_cons (fe_keep (pv 1)) (fa_cons (fe_keep (pv 1)) fa_nil))) fa_nil)))))) (fw_one (fb_cmp op_isnotA ro_isnot (fe_frz (fn_call d_is_sewing hr (by decide) (by rfl) (fa_cons (fe_keep (pv 1)) fa_nil))) fe_bl (nomark _)) (by first | exact .inl rfl | exact .inr rfl)))) (fss_one (fs_ret (fn_val fe_bl))) fss_nil)
    (fss_cons (fs_asg (i := 2) S.nd rfl (by first | exact .inl rfl | exact .inr rfl) (fn_val (fe_op op_sub ro_sub (fe_op op_addA ro_add (fe_ix hu (fe_var (pv 0)) fe_int) (fe_ix hu (fe_var (pv 0)) fe_int)) fe_int)))
    (fss_cons (fs_if (fb_not (fb_val (fe_frz (fn_call d__law_same hr (by decide) (by rfl) (fa_cons (fe_tup (fa_cons (fe_frz (fn_call d_kind hr (by decide) (by rfl) (fa_cons (fe_keep (pv 1)) fa_nil))) (fa_cons (fe_frz (fn_call d_rim_count hr (by decide) (by rfl) (fa_cons (fe_keep (pv 1)) fa_nil))) (fa_cons (fe_frz (fn_call d_rank hr (by decide) (by rfl) (fa_cons (fe_keep (pv 1)) fa_nil))) (fa_cons (fe_frz (fn_call d_letters hr (by decide) (by rfl) (fa_cons (fe_ix hu (fe_var (pv 1)) fe_int) fa_nil))) fa_nil))))) (fa_cons (fe_tup (fa_cons (fe_keep (pv 0)) (fa_cons (fe_ix hu (fe_var (pv 0)) fe_int) (fa_cons (fe_ix hu (fe_var (pv 0)) fe_int) (fa_cons (fe_sl (fe_str (s := [97, 98, 99, 100, 101, 102, 103, 104, 105, 106, 107, 108]) (by decide +kernel)) fo_none (fo_some (fe_var (pv 2)))) fa_nil))))) fa_nil)))))) (fss_one (fs_ret (fn_val fe_bl))) fss_nil)
    (fss_cons (fs_if (fb_cmp op_ltA ro_lt (fe_var (pv 2)) fe_int (nomark _)) (fss_cons (fs_asg (i := 3) S.nd rfl (by first | exact .inl rfl | exact .inr rfl) (fn_call d_plain_form hr (by decide) (by rfl) (fa_cons (fe_tup (fa_cons (fe_op op_addA ro_add (fe_ix hu (fe_var (pv 0)) fe_int) fe_int) (fa_cons (fe_ix hu (fe_var (pv 0)) fe_int) (fa_cons (fe_ix hu (fe_var (pv 0)) fe_int) fa_nil)))) fa_nil)))
    (fss_one (fs_ret (fn_call d__law_same hr (by decide) (by rfl) (fa_cons (fe_tup (fa_cons (fe_sl (fe_ix hu (fe_var (pv 3)) fe_int) fo_none (fo_some (fe_op op_mulA ro_mul fe_int (fe_var (pv 2))))) (fa_cons (fe_ix hu (fe_var (pv 3)) fe_int) fa_nil))) (fa_cons (fe_keep (pv 1)) fa_nil)))))) fss_nil)
    (fss_one (fs_ret (fn_val fe_bl))))))))
abbrev s__law_round : Stmt := top 67
theorem sc__law_round : FnScope ["well", "number", "turn", "forms", "triple", "most", "first"] ["well"] (defScope s__law_round) := ⟨rfl, rfl, rfl, by decide +kernel, rfl, by decide +kernel, by decide +kernel⟩
def l__law_round_1 : Sm := (sSeq (sIf (bOr (bNot (bOf (eFrz (nCall 1 m__law_kind_right (aCons (eKeep 4) aNil))))) (bOf (eOp cInDeep (eFrz (nCall 1 m_plain_form (aCons (eKeep 4) aNil))) (eVar 3)))) (sRet (nVal (eC (.bl false)))) sNil)
    (sE (eMt 3 mApp (aCons (eFrz (nCall 1 m_plain_form (aCons (eKeep 4) aNil))) aNil))))
def l__law_round_2 : Sm := (sSeq (sAsg 3 (nLst aNil))
    (sFor (iSeq (eFrz (nCall 1 m_kinds_of (aCons (eKeep 1) aNil)))) (hName 4) l__law_round_1))
def l__law_round_3 : Sm := (sSeq (sAsg 5 (nCallO 2 0 m__law_take (aCons (eVar 0) (aCons (eC (.int 13)) aNil))))
    (sSeq (sAsg 6 (nVal (eOp cAdd (eC (.int 1)) (eFrz (nCallO 2 0 m__law_take (aCons (eVar 0) (aCons (eOp cSub (eC (.int 13)) (eVar 5)) aNil)))))))
    (sSeq (sAsg 4 (nVal (eTup (aCons (eKeep 6) (aCons (eIf (bOr (bOf (eOp cEq (eOp cMod (eCb cInt (aCons (eVar 5) aNil)) (eC (.int 2))) (eC (.int 1)))) (bAnd (bOf (eOp cGt (eVar 5) (eC (.int 0)))) (bOf (eOp cEq (eFrz (nCallO 2 0 m__law_take (aCons (eVar 0) (aCons (eC (.int 2)) aNil)))) (eC (.int 0)))))) (eC (.int 1)) (eC (.int 2))) (aCons (eKeep 5) aNil))))))
    (sIf (bNot (bOf (eFrz (nCall 1 m__law_kind_right (aCons (eKeep 4) aNil))))) (sRet (nVal (eC (.bl false)))) sNil))))
def b__law_round : Sm := (sSeq (sFor (iSeq (eFrz (nLst (aCons (eC (.int 0)) (aCons (eC (.int 1)) (aCons (eC (.int 2)) (aCons (eFrz (nCallO 2 0 m__law_take (aCons (eVar 0) (aCons (eC (.int 13)) aNil)))) (aCons (eOp cSub (eC (.int 12)) (eFrz (nCallO 2 0 m__law_take (aCons (eVar 0) (aCons (eC (.int 3)) aNil))))) aNil)))))))) (hName 1) l__law_round_2)
    (sSeq (sFor (iRng1 (aCons (eC (.int 6)) aNil)) (hName 2) l__law_round_3)
    (sRet (nVal (eC (.bl true))))))
def m__law_round : Rho → Option (T × Rho) := runD 6 b__law_round
theorem w__law_round (D : Dn K mg "_law_round" s__law_round ["well"] f fd) (d__law_take : Dg P w K mg base cm 1 "_law_take" ["well", "many"] m__law_take) (d_kinds_of : Dg P w K mg base cm 5 "kinds_of" ["number"] m_kinds_of) (d__law_kind_right : Dg P w K mg base cm 10 "_law_kind_right" ["triple"] m__law_kind_right) (d_plain_form : Dg P w K mg base cm 4 "plain_form" ["triple"] m_plain_form) (z_int : mg "int" = none) (z_range : mg "range" = none) : FnG P w K mg base cm 11 f fd ["well"] m__law_round := fd_ok D.F (N := ["well", "number", "turn", "forms", "triple", "most", "first"]) sc__law_round fun cdv A outer s H E hr => by
  have S := sc__law_round
  have hu := hu_of hr
  have hv := hr.units
  have hc : (cxOf CX0 P w K mg base ["well", "number", "turn", "forms", "triple", "most", "first"] "_law_round" (defScope s__law_round) f cdv A outer s H E).nox.calm = true := rfl
  exact (fss_cons (fs_for PassesOwn.never hc (fi_seq (fe_frz (fn_lst (fa_cons fe_int (fa_cons fe_int (fa_cons fe_int (fa_cons (fe_frz (fn_callO (j0 := 0) d__law_take hr (by decide) (by rfl) (fa_cons (fe_var (pv 0)) (fa_cons fe_int fa_nil)))) (fa_cons (fe_op op_sub ro_sub fe_int (fe_frz (fn_callO (j0 := 0) d__law_take hr (by decide) (by rfl) (fa_cons (fe_var (pv 0)) (fa_cons fe_int fa_nil))))) fa_nil)))))))) (fg_name (pg_name (i := 1) S.nd rfl (by first | exact .inl rfl | exact .inr rfl))) (fss_cons (fs_asg (i := 3) S.nd rfl (by first | exact .inl rfl | exact .inr rfl) (fn_lst fa_nil))
    (fss_one (fs_for PassesOwn.never hc (fi_seq (fe_frz (fn_call d_kinds_of hr (by decide) (by rfl) (fa_cons (fe_keep (pv 1)) fa_nil)))) (fg_name (pg_name (i := 4) S.nd rfl (by first | exact .inl rfl | exact .inr rfl))) (fss_cons (fs_if (fb_w (fw_or (fb_not (fb_val (fe_frz (fn_call d__law_kind_right hr (by decide) (by rfl) (fa_cons (fe_keep (pv 4)) fa_nil))))) (fw_one (fb_cmp (op_inD (hu65 hr)) ro_inDeep (fe_frz (fn_call d_plain_form hr (by decide) (by rfl) (fa_cons (fe_keep (pv 4)) fa_nil))) (fe_var (pv 3)) (by with_unfolding_all rfl)) (by first | exact .inl rfl | exact .inr rfl)))) (fss_one (fs_ret (fn_val fe_bl))) fss_nil)
    (fss_one (fs_expr (fe_mt PySem.F.slot_list_append PySem.F.type_list_append mt_append rm_app (pv 3) (fa_cons (fe_frz (fn_call d_plain_form hr (by decide) (by rfl) (fa_cons (fe_keep (pv 4)) fa_nil))) fa_nil)))))))))
    (fss_cons (fs_for PassesOwn.never hc (fi_rng1 rfl z_range (fa_cons fe_int fa_nil)) (fg_name (pg_name (i := 2) S.nd rfl (by first | exact .inl rfl | exact .inr rfl))) (fss_cons (fs_asg (i := 5) S.nd rfl (by first | exact .inl rfl | exact .inr rfl) (fn_callO (j0 := 0) d__law_take hr (by decide) (by rfl) (fa_cons (fe_var (pv 0)) (fa_cons fe_int fa_nil))))
    (fss_cons (fs_asg (i := 6) S.nd rfl (by first | exact .inl rfl | exact .inr rfl) (fn_val (fe_op op_addA ro_add fe_int (fe_frz (fn_callO (j0 := 0) d__law_take hr (by decide) (by rfl) (fa_cons (fe_var (pv 0)) (fa_cons (fe_op op_sub ro_sub fe_int (fe_var (pv 5))) fa_nil)))))))
    (fss_cons (fs_asg (i := 4) S.nd rfl (by first | exact .inl rfl | exact .inr rfl) (fn_val (fe_tup (fa_cons (fe_keep (pv 6)) (fa_cons (fe_if (fb_w (fw_or (fb_cmp (op_eqD hv) ro_eq (fe_op op_mod ro_mod (fe_ct call_int1 rc_int rfl z_int (by decide +kernel) (fa_cons (fe_var (pv 5)) fa_nil)) fe_int) fe_int (nomark _)) (fw_one (fb_w (fw_and (fb_cmp op_gtA ro_gt (fe_var (pv 5)) fe_int (nomark _)) (fw_one (fb_cmp (op_eqD hv) ro_eq (fe_frz (fn_callO (j0 := 0) d__law_take hr (by decide) (by rfl) (fa_cons (fe_var (pv 0)) (fa_cons fe_int fa_nil)))) fe_int (nomark _)) (by first | exact .inl rfl | exact .inr rfl)))) (by first | exact .inl rfl | exact .inr rfl)))) fe_int fe_int) (fa_cons (fe_keep (pv 5)) fa_nil))))))
    (fss_one (fs_if (fb_not (fb_val (fe_frz (fn_call d__law_kind_right hr (by decide) (by rfl) (fa_cons (fe_keep (pv 4)) fa_nil))))) (fss_one (fs_ret (fn_val fe_bl))) fss_nil))))))
    (fss_one (fs_ret (fn_val fe_bl)))))
abbrev s__law_well : Stmt := top 62
theorem sc__law_well : FnScope ["script", "turn", "own", "stir", "cell"] ["script", "turn"] (defScope s__law_well) := ⟨rfl, rfl, rfl, by decide +kernel, rfl, by decide +kernel, by decide +kernel⟩
def l__law_well_1 : Sm := (sAsg 3 (nVal (eOp cMod (eCb cInt (aCons (eOp cAdd (eOp cAdd (eOp cMul (eVar 3) (eC (.int 45013))) (eOp cMod (eCb cInt (aCons (eVar 4) aNil)) (eC (.int 2147483399)))) (eC (.int 37))) aNil)) (eC (.int 2147483563)))))
def b__law_well : Sm := (sSeq (sAsg 2 (nIf (bOf (eOp cLt (eVar 1) (eCb cLen (aCons (eVar 0) aNil)))) (nVal (eCb cInt (aCons (eIx (eVar 0) (eVar 1)) aNil))) (nVal (eOp cAdd (eOp cAdd (eOp cMul (eC (.int 9311)) (eVar 1)) (eOp cMod (eCb cInt (aCons (eCb cSumX (aCons (eSl (eVar 0) oNone (oSome (eC (.int 2)))) aNil)) aNil)) (eC (.int 1000003)))) (eC (.int 71))))))
    (sSeq (sAsg 3 (nVal (eOp cAdd (eC (.int 50021)) (eOp cMul (eC (.int 1013)) (eVar 1)))))
    (sSeq (sFor (iSeq (eOp cAdd (eSl (eVar 0) oNone (oSome (eC (.int 5)))) (eFrz (nLst (aCons (eKeep 2) aNil))))) (hName 4) l__law_well_1)
    (sRet (nLst (aCons (eIf (bOr (bOf (eOp cLt (eVar 2) (eC (.int 0)))) (bOf (eOp cGe (eVar 2) (eOp cPow (eC (.int 10)) (eC (.int 17)))))) (eCb cAbs (aCons (eVar 2) aNil)) (eC (.int 0))) (aCons (eKeep 3) (aCons (eC (.int 0)) aNil))))))))
def m__law_well : Rho → Option (T × Rho) := runD 3 b__law_well
theorem w__law_well (D : Dn K mg "_law_well" s__law_well ["script", "turn"] f fd) (z_abs : mg "abs" = none) (z_int : mg "int" = none) (z_len : mg "len" = none) (z_sum : mg "sum" = none) : FnG P w K mg base cm 1 f fd ["script", "turn"] m__law_well := fd_ok D.F (N := ["script", "turn", "own", "stir", "cell"]) sc__law_well fun cdv A outer s H E hr => by
  have S := sc__law_well
  have hu := hu_of hr
  have hv := hr.units
  have hc : (cxOf CX0 P w K mg base ["script", "turn", "own", "stir", "cell"] "_law_well" (defScope s__law_well) f cdv A outer s H E).nox.calm = true := rfl
  exact (fss_cons (fs_asg (i := 2) S.nd rfl (by first | exact .inl rfl | exact .inr rfl) (fn_if (fb_cmp op_ltA ro_lt (fe_var (pv 1)) (fe_cb call_len rc_len rfl z_len (by decide +kernel) (fa_cons (fe_var (pv 0)) fa_nil)) (nomark _)) (fn_val (fe_ct call_int1 rc_int rfl z_int (by decide +kernel) (fa_cons (fe_ix hu (fe_var (pv 0)) (fe_var (pv 1))) fa_nil))) (fn_val (fe_op op_addA ro_add (fe_op op_addA ro_add (fe_op op_mulA ro_mul fe_int (fe_var (pv 1))) (fe_op op_mod ro_mod (fe_ct call_int1 rc_int rfl z_int (by decide +kernel) (fa_cons (fe_cb (cr_sumX hc) rc_sumX rfl z_sum (by decide +kernel) (fa_cons (fe_sl (fe_var (pv 0)) fo_none (fo_some fe_int)) fa_nil)) fa_nil)) fe_int)) fe_int))))
    (fss_cons (fs_asg (i := 3) S.nd rfl (by first | exact .inl rfl | exact .inr rfl) (fn_val (fe_op op_addA ro_add fe_int (fe_op op_mulA ro_mul fe_int (fe_var (pv 1))))))
    (fss_cons (fs_for PassesOwn.never hc (fi_seq (fe_op op_addA ro_add (fe_sl (fe_var (pv 0)) fo_none (fo_some fe_int)) (fe_frz (fn_lst (fa_cons (fe_keep (pv 2)) fa_nil))))) (fg_name (pg_name (i := 4) S.nd rfl (by first | exact .inl rfl | exact .inr rfl))) (fss_one (fs_asg (i := 3) S.nd rfl (by first | exact .inl rfl | exact .inr rfl) (fn_val (fe_op op_mod ro_mod (fe_ct call_int1 rc_int rfl z_int (by decide +kernel) (fa_cons (fe_op op_addA ro_add (fe_op op_addA ro_add (fe_op op_mulA ro_mul (fe_var (pv 3)) fe_int) (fe_op op_mod ro_mod (fe_ct call_int1 rc_int rfl z_int (by decide +kernel) (fa_cons (fe_var (pv 4)) fa_nil)) fe_int)) fe_int) fa_nil)) fe_int)))))
    (fss_one (fs_ret (fn_lst (fa_cons (fe_if (fb_w (fw_or (fb_cmp op_ltA ro_lt (fe_var (pv 2)) fe_int (nomark _)) (fw_one (fb_cmp op_geA ro_ge (fe_var (pv 2)) (fe_op op_pow ro_pow fe_int fe_int) (nomark _)) (by first | exact .inl rfl | exact .inr rfl)))) (fe_cb call_abs rc_abs rfl z_abs (by decide +kernel) (fa_cons (fe_var (pv 2)) fa_nil)) fe_int) (fa_cons (fe_keep (pv 3)) (fa_cons fe_int fa_nil)))))))))
abbrev s_law : Stmt := top 68
theorem sc_law : FnScope ["script", "turn"] ["script"] (defScope s_law) := ⟨rfl, rfl, rfl, by decide +kernel, rfl, by decide +kernel, by decide +kernel⟩
def e_law_1 : Em := (eFrz (nCallF m__law_round (nCall 2 m__law_well (aCons (eKeep 0) (aCons (eKeep 1) aNil)))))
def b_law : Sm := (sRet (nVal (eCb cAll (aCons (eFrz (nLc [1] (iRng1 (aCons (eCb cMax2 (aCons (eC (.int 2)) (aCons (eCb cMin2 (aCons (eCb cLen (aCons (eVar 0) aNil)) (aCons (eC (.int 3)) aNil))) aNil))) aNil)) (hName 1) bYes e_law_1)) aNil))))
def m_law : Rho → Option (T × Rho) := runD 1 b_law
theorem w_law (D : Dn K mg "law" s_law ["script"] f fd) (d__law_round : Dg P w K mg base cm 11 "_law_round" ["well"] m__law_round) (d__law_well : Dg P w K mg base cm 1 "_law_well" ["script", "turn"] m__law_well) (z_all : mg "all" = none) (z_len : mg "len" = none) (z_max : mg "max" = none) (z_min : mg "min" = none) (z_range : mg "range" = none) : FnG P w K mg base cm 12 f fd ["script"] m_law := fd_ok D.F (N := ["script", "turn"]) sc_law fun cdv A outer s H E hr => by
  have S := sc_law
  have hu := hu_of hr
  have hv := hr.units
  have hc : (cxOf CX0 P w K mg base ["script", "turn"] "law" (defScope s_law) f cdv A outer s H E).nox.calm = true := rfl
  exact (fss_one (fs_ret (fn_val (fe_cb (cr_all hc) rc_all rfl z_all (by decide +kernel) (fa_cons (fe_frz (fn_lc (own := [("turn", 1)]) hc S.nd (fi_rng1 rfl z_range (fa_cons (fe_cb (call_max2 hc) rc_max2 rfl z_max (by decide +kernel) (fa_cons fe_int (fa_cons (fe_cb (call_min2 hc) rc_min2 rfl z_min (by decide +kernel) (fa_cons (fe_cb call_len rc_len rfl z_len (by decide +kernel) (fa_cons (fe_var (pv 0)) fa_nil)) (fa_cons fe_int fa_nil))) fa_nil))) fa_nil)) (blkOk_by (by rfl)) (fun _ _ _ _ _ => (fg_name (pg_name (i := 1) S.nd rfl (by first | exact .inl rfl | exact .inr rfl)))) (fun _ _ _ _ _ => fts_nil) (fun _ _ _ _ _ => (fe_frz (fn_callF d__law_round hr (by decide) (by rfl) (fn_call d__law_well hr (by decide) (by rfl) (fa_cons (fe_keep (pv 0)) (fa_cons (fe_keep (pv 1)) fa_nil)))))) (by decide))) fa_nil)))))
end
def kLaw : Nat := 12
section
variable {P : Program} {w : World} {K : PySem.W.Frag} {mg : Str → Option Value} {base : Heap} {cm : Cm}
theorem w_all {f__law_take : Addr} {fd__law_take : FuncData} (D__law_take : Dn K mg "_law_take" s__law_take ["well", "many"] f__law_take fd__law_take) {f_is_whole : Addr} {fd_is_whole : FuncData} (D_is_whole : Dn K mg "is_whole" s_is_whole ["value"] f_is_whole fd_is_whole) {f_is_between : Addr} {fd_is_between : FuncData} (D_is_between : Dn K mg "is_between" s_is_between ["value", "low", "high"] f_is_between fd_is_between) {f_check_number : Addr} {fd_check_number : FuncData} (D_check_number : Dn K mg "check_number" s_check_number ["value", "low", "high"] f_check_number fd_check_number) {f_is_tuple_of : Addr} {fd_is_tuple_of : FuncData} (D_is_tuple_of : Dn K mg "is_tuple_of" s_is_tuple_of ["value", "many"] f_is_tuple_of fd_is_tuple_of) {f_are_wholes : Addr} {fd_are_wholes : FuncData} (D_are_wholes : Dn K mg "are_wholes" s_are_wholes ["value", "many"] f_are_wholes fd_are_wholes) {f_bands_of : Addr} {fd_bands_of : FuncData} (D_bands_of : Dn K mg "bands_of" s_bands_of ["kind"] f_bands_of fd_bands_of) {f_is_kinded : Addr} {fd_is_kinded : FuncData} (D_is_kinded : Dn K mg "is_kinded" s_is_kinded ["value"] f_is_kinded fd_is_kinded) {f_kinds_by : Addr} {fd_kinds_by : FuncData} (D_kinds_by : Dn K mg "kinds_by" s_kinds_by ["number"] f_kinds_by fd_kinds_by) {f_kinds_of : Addr} {fd_kinds_of : FuncData} (D_kinds_of : Dn K mg "kinds_of" s_kinds_of ["number"] f_kinds_of fd_kinds_of) {f__law_plain : Addr} {fd__law_plain : FuncData} (D__law_plain : Dn K mg "_law_plain" s__law_plain ["triple"] f__law_plain fd__law_plain) {f__law_same : Addr} {fd__law_same : FuncData} (D__law_same : Dn K mg "_law_same" s__law_same ["told", "due"] f__law_same fd__law_same) {f_plain_by : Addr} {fd_plain_by : FuncData} (D_plain_by : Dn K mg "plain_by" s_plain_by ["kind"] f_plain_by fd_plain_by) {f_plain_form : Addr} {fd_plain_form : FuncData} (D_plain_form : Dn K mg "plain_form" s_plain_form ["triple"] f_plain_form fd_plain_form) {f_is_text_of : Addr} {fd_is_text_of : FuncData} (D_is_text_of : Dn K mg "is_text_of" s_is_text_of ["value", "signs"] f_is_text_of fd_is_text_of) {f_is_worded : Addr} {fd_is_worded : FuncData} (D_is_worded : Dn K mg "is_worded" s_is_worded ["value"] f_is_worded fd_is_worded) {f_is_ascending : Addr} {fd_is_ascending : FuncData} (D_is_ascending : Dn K mg "is_ascending" s_is_ascending ["row"] f_is_ascending fd_is_ascending) {f_is_lot_of : Addr} {fd_is_lot_of : FuncData} (D_is_lot_of : Dn K mg "is_lot_of" s_is_lot_of ["word", "value"] f_is_lot_of fd_is_lot_of) {f_is_sewn : Addr} {fd_is_sewn : FuncData} (D_is_sewn : Dn K mg "is_sewn" s_is_sewn ["value"] f_is_sewn fd_is_sewn) {f_is_sewing : Addr} {fd_is_sewing : FuncData} (D_is_sewing : Dn K mg "is_sewing" s_is_sewing ["value"] f_is_sewing fd_is_sewing) {f_check_sewing : Addr} {fd_check_sewing : FuncData} (D_check_sewing : Dn K mg "check_sewing" s_check_sewing ["sewing"] f_check_sewing fd_check_sewing) {f_letters_by : Addr} {fd_letters_by : FuncData} (D_letters_by : Dn K mg "letters_by" s_letters_by ["word"] f_letters_by fd_letters_by) {f_ends_by : Addr} {fd_ends_by : FuncData} (D_ends_by : Dn K mg "ends_by" s_ends_by ["word"] f_ends_by fd_ends_by) {f_partners_by : Addr} {fd_partners_by : FuncData} (D_partners_by : Dn K mg "partners_by" s_partners_by ["word"] f_partners_by fd_partners_by) {f_Bands___init__ : Addr} {fd_Bands___init__ : FuncData} (D_Bands___init__ : Di K mg (cm.c 0) "Bands" "Bands.__init__" s_Bands___init__ ["self", "sewing"] f_Bands___init__ fd_Bands___init__) {f_Bands_behind : Addr} {fd_Bands_behind : FuncData} (D_Bands_behind : Dm K (cm.c 0) "behind" "Bands.behind" s_Bands_behind ["self", "end", "way"] f_Bands_behind fd_Bands_behind) {f_Bands_end_met : Addr} {fd_Bands_end_met : FuncData} (D_Bands_end_met : Dm K (cm.c 0) "end_met" "Bands.end_met" s_Bands_end_met ["self", "gap", "way"] f_Bands_end_met fd_Bands_end_met) {f_Bands_next_gap : Addr} {fd_Bands_next_gap : FuncData} (D_Bands_next_gap : Dm K (cm.c 0) "next_gap" "Bands.next_gap" s_Bands_next_gap ["self", "gap", "way"] f_Bands_next_gap fd_Bands_next_gap) {f_Bands_rim_from : Addr} {fd_Bands_rim_from : FuncData} (D_Bands_rim_from : Dm K (cm.c 0) "rim_from" "Bands.rim_from" s_Bands_rim_from ["self", "gap"] f_Bands_rim_from fd_Bands_rim_from) {f_rims_by : Addr} {fd_rims_by : FuncData} (D_rims_by : Dn K mg "rims_by" s_rims_by ["sewing"] f_rims_by fd_rims_by) {f_rim_count_by : Addr} {fd_rim_count_by : FuncData} (D_rim_count_by : Dn K mg "rim_count_by" s_rim_count_by ["sewing"] f_rim_count_by fd_rim_count_by) {f_sides_by : Addr} {fd_sides_by : FuncData} (D_sides_by : Dn K mg "sides_by" s_sides_by ["sewing"] f_sides_by fd_sides_by) {f_lead_of : Addr} {fd_lead_of : FuncData} (D_lead_of : Dn K mg "lead_of" s_lead_of ["row"] f_lead_of fd_lead_of) {f_taken_down : Addr} {fd_taken_down : FuncData} (D_taken_down : Dn K mg "taken_down" s_taken_down ["row", "leads"] f_taken_down fd_taken_down) {f_rank_of : Addr} {fd_rank_of : FuncData} (D_rank_of : Dn K mg "rank_of" s_rank_of ["rows"] f_rank_of fd_rank_of) {f_do_alternate : Addr} {fd_do_alternate : FuncData} (D_do_alternate : Dn K mg "do_alternate" s_do_alternate ["one", "two"] f_do_alternate fd_do_alternate) {f_near_by : Addr} {fd_near_by : FuncData} (D_near_by : Dn K mg "near_by" s_near_by ["word"] f_near_by fd_near_by) {f_row_of : Addr} {fd_row_of : FuncData} (D_row_of : Dn K mg "row_of" s_row_of ["places"] f_row_of fd_row_of) {f_rows_by : Addr} {fd_rows_by : FuncData} (D_rows_by : Dn K mg "rows_by" s_rows_by ["sewing"] f_rows_by fd_rows_by) {f_rank_by : Addr} {fd_rank_by : FuncData} (D_rank_by : Dn K mg "rank_by" s_rank_by ["sewing"] f_rank_by fd_rank_by) {f_kind_by : Addr} {fd_kind_by : FuncData} (D_kind_by : Dn K mg "kind_by" s_kind_by ["sewing"] f_kind_by fd_kind_by) {f_kind : Addr} {fd_kind : FuncData} (D_kind : Dn K mg "kind" s_kind ["sewing"] f_kind fd_kind) {f_rim_count : Addr} {fd_rim_count : FuncData} (D_rim_count : Dn K mg "rim_count" s_rim_count ["sewing"] f_rim_count fd_rim_count) {f_rank : Addr} {fd_rank : FuncData} (D_rank : Dn K mg "rank" s_rank ["sewing"] f_rank fd_rank) {f_check_word : Addr} {fd_check_word : FuncData} (D_check_word : Dn K mg "check_word" s_check_word ["word"] f_check_word fd_check_word) {f_letters : Addr} {fd_letters : FuncData} (D_letters : Dn K mg "letters" s_letters ["word"] f_letters fd_letters) {f__law_kind_right : Addr} {fd__law_kind_right : FuncData} (D__law_kind_right : Dn K mg "_law_kind_right" s__law_kind_right ["triple"] f__law_kind_right fd__law_kind_right) {f__law_round : Addr} {fd__law_round : FuncData} (D__law_round : Dn K mg "_law_round" s__law_round ["well"] f__law_round fd__law_round) {f__law_well : Addr} {fd__law_well : FuncData} (D__law_well : Dn K mg "_law_well" s__law_well ["script", "turn"] f__law_well fd__law_well) {f_law : Addr} {fd_law : FuncData} (D_law : Dn K mg "law" s_law ["script"] f_law fd_law) (z_abs : mg "abs" = none) (z_all : mg "all" = none) (z_bool : mg "bool" = none) (z_divmod : mg "divmod" = none) (z_enumerate : mg "enumerate" = none) (z_int : mg "int" = none) (z_isinstance : mg "isinstance" = none) (z_len : mg "len" = none) (z_list : mg "list" = none) (z_max : mg "max" = none) (z_min : mg "min" = none) (z_range : mg "range" = none) (z_set : mg "set" = none) (z_sorted : mg "sorted" = none) (z_str : mg "str" = none) (z_sum : mg "sum" = none) (z_tuple : mg "tuple" = none) (z_zip : mg "zip" = none) (k_MOST : KC K cm mg "MOST" c_MOST) (k_ONE_SIDE : KC K cm mg "ONE_SIDE" c_ONE_SIDE) (k_TWO_SIDES : KC K cm mg "TWO_SIDES" c_TWO_SIDES) (k_LETTERS : KC K cm mg "LETTERS" c_LETTERS) (k_FORWARD : KC K cm mg "FORWARD" c_FORWARD) (C_Bands : Cls K (cm.c 0)) (n_Bands_many : NoAttr K (cm.c 0) "many") (n_Bands_partners : NoAttr K (cm.c 0) "partners") (n_Bands_twists : NoAttr K (cm.c 0) "twists") : FnG P w K mg base cm 12 f_law fd_law ["script"] m_law := by
  have g__law_take := w__law_take (P := P) (w := w) (mg := mg) (base := base) (cm := cm) D__law_take z_divmod z_int
  have d__law_take := D__law_take.mk' g__law_take
  have g_is_whole := w_is_whole (P := P) (w := w) (mg := mg) (base := base) (cm := cm) D_is_whole z_bool z_int z_isinstance
  have d_is_whole := D_is_whole.mk' g_is_whole
  have g_is_between := w_is_between (P := P) (w := w) (mg := mg) (base := base) (cm := cm) D_is_between d_is_whole
  have d_is_between := D_is_between.mk' g_is_between
  have g_check_number := w_check_number (P := P) (w := w) (mg := mg) (base := base) (cm := cm) D_check_number d_is_between
  have d_check_number := D_check_number.mk' g_check_number
  have g_is_tuple_of := w_is_tuple_of (P := P) (w := w) (mg := mg) (base := base) (cm := cm) D_is_tuple_of z_isinstance z_len z_tuple
  have d_is_tuple_of := D_is_tuple_of.mk' g_is_tuple_of
  have g_are_wholes := w_are_wholes (P := P) (w := w) (mg := mg) (base := base) (cm := cm) D_are_wholes d_is_tuple_of d_is_whole z_all
  have d_are_wholes := D_are_wholes.mk' g_are_wholes
  have g_bands_of := w_bands_of (P := P) (w := w) (mg := mg) (base := base) (cm := cm) D_bands_of 
  have d_bands_of := D_bands_of.mk' g_bands_of
  have g_is_kinded := w_is_kinded (P := P) (w := w) (mg := mg) (base := base) (cm := cm) D_is_kinded d_are_wholes d_bands_of k_MOST k_ONE_SIDE k_TWO_SIDES
  have d_is_kinded := D_is_kinded.mk' g_is_kinded
  have g_kinds_by := w_kinds_by (P := P) (w := w) (mg := mg) (base := base) (cm := cm) D_kinds_by d_is_kinded z_range z_sorted k_ONE_SIDE k_TWO_SIDES
  have d_kinds_by := D_kinds_by.mk' g_kinds_by
  have g_kinds_of := w_kinds_of (P := P) (w := w) (mg := mg) (base := base) (cm := cm) D_kinds_of d_check_number d_kinds_by z_tuple k_MOST
  have d_kinds_of := D_kinds_of.mk' g_kinds_of
  have g__law_plain := w__law_plain (P := P) (w := w) (mg := mg) (base := base) (cm := cm) D__law_plain z_list z_range
  have d__law_plain := D__law_plain.mk' g__law_plain
  have g__law_same := w__law_same (P := P) (w := w) (mg := mg) (base := base) (cm := cm) D__law_same z_all z_bool z_int z_isinstance z_len z_range z_str z_tuple 4
  have d__law_same := D__law_same.mk' g__law_same
  have g_plain_by := w_plain_by (P := P) (w := w) (mg := mg) (base := base) (cm := cm) D_plain_by d_bands_of z_range k_LETTERS k_ONE_SIDE k_TWO_SIDES
  have d_plain_by := D_plain_by.mk' g_plain_by
  have g_plain_form := w_plain_form (P := P) (w := w) (mg := mg) (base := base) (cm := cm) D_plain_form d_is_kinded d_plain_by
  have d_plain_form := D_plain_form.mk' g_plain_form
  have dk_plain_form_0 := D_plain_form.mkK g_plain_form ["triple"] [0] (fun _ _ _ _ _ _ ws hl => match ws, hl with | [_], _ => rfl)
  have g_is_text_of := w_is_text_of (P := P) (w := w) (mg := mg) (base := base) (cm := cm) D_is_text_of z_all z_isinstance z_str
  have d_is_text_of := D_is_text_of.mk' g_is_text_of
  have g_is_worded := w_is_worded (P := P) (w := w) (mg := mg) (base := base) (cm := cm) D_is_worded d_is_text_of z_all k_LETTERS
  have d_is_worded := D_is_worded.mk' g_is_worded
  have g_is_ascending := w_is_ascending (P := P) (w := w) (mg := mg) (base := base) (cm := cm) D_is_ascending z_all z_zip
  have d_is_ascending := D_is_ascending.mk' g_is_ascending
  have g_is_lot_of := w_is_lot_of (P := P) (w := w) (mg := mg) (base := base) (cm := cm) D_is_lot_of d_is_text_of d_is_ascending
  have d_is_lot_of := D_is_lot_of.mk' g_is_lot_of
  have g_is_sewn := w_is_sewn (P := P) (w := w) (mg := mg) (base := base) (cm := cm) D_is_sewn d_is_tuple_of d_is_worded d_is_lot_of
  have d_is_sewn := D_is_sewn.mk' g_is_sewn
  have g_is_sewing := w_is_sewing (P := P) (w := w) (mg := mg) (base := base) (cm := cm) D_is_sewing d_is_sewn
  have d_is_sewing := D_is_sewing.mk' g_is_sewing
  have g_check_sewing := w_check_sewing (P := P) (w := w) (mg := mg) (base := base) (cm := cm) D_check_sewing d_is_sewn
  have d_check_sewing := D_check_sewing.mk' g_check_sewing
  have g_letters_by := w_letters_by (P := P) (w := w) (mg := mg) (base := base) (cm := cm) D_letters_by z_set z_sorted
  have d_letters_by := D_letters_by.mk' g_letters_by
  have g_ends_by := w_ends_by (P := P) (w := w) (mg := mg) (base := base) (cm := cm) D_ends_by d_letters_by
  have d_ends_by := D_ends_by.mk' g_ends_by
  have g_partners_by := w_partners_by (P := P) (w := w) (mg := mg) (base := base) (cm := cm) D_partners_by d_ends_by z_enumerate z_sum
  have d_partners_by := D_partners_by.mk' g_partners_by
  have g_Bands___init__ := w_Bands___init__ (P := P) (w := w) (mg := mg) (base := base) (cm := cm) D_Bands___init__ d_partners_by z_len C_Bands n_Bands_many n_Bands_partners n_Bands_twists
  have d_Bands___init__ := D_Bands___init__.mk' g_Bands___init__
  have g_Bands_behind := w_Bands_behind (P := P) (w := w) (mg := mg) (base := base) (cm := cm) D_Bands_behind  C_Bands n_Bands_partners n_Bands_twists
  have d_Bands_behind := D_Bands_behind.mk' g_Bands_behind
  have g_Bands_end_met := w_Bands_end_met (P := P) (w := w) (mg := mg) (base := base) (cm := cm) D_Bands_end_met k_FORWARD C_Bands n_Bands_many
  have d_Bands_end_met := D_Bands_end_met.mk' g_Bands_end_met
  have g_Bands_next_gap := w_Bands_next_gap (P := P) (w := w) (mg := mg) (base := base) (cm := cm) D_Bands_next_gap d_Bands_behind d_Bands_end_met k_FORWARD C_Bands n_Bands_many
  have d_Bands_next_gap := D_Bands_next_gap.mk' g_Bands_next_gap
  have g_Bands_rim_from := w_Bands_rim_from (P := P) (w := w) (mg := mg) (base := base) (cm := cm) D_Bands_rim_from d_Bands_next_gap z_tuple k_FORWARD C_Bands
  have d_Bands_rim_from := D_Bands_rim_from.mk' g_Bands_rim_from
  have g_rims_by := w_rims_by (P := P) (w := w) (mg := mg) (base := base) (cm := cm) D_rims_by d_Bands___init__ d_Bands_rim_from z_range C_Bands n_Bands_many
  have d_rims_by := D_rims_by.mk' g_rims_by
  have g_rim_count_by := w_rim_count_by (P := P) (w := w) (mg := mg) (base := base) (cm := cm) D_rim_count_by d_rims_by z_len
  have d_rim_count_by := D_rim_count_by.mk' g_rim_count_by
  have g_sides_by := w_sides_by (P := P) (w := w) (mg := mg) (base := base) (cm := cm) D_sides_by k_ONE_SIDE k_TWO_SIDES
  have d_sides_by := D_sides_by.mk' g_sides_by
  have g_lead_of := w_lead_of (P := P) (w := w) (mg := mg) (base := base) (cm := cm) D_lead_of 
  have d_lead_of := D_lead_of.mk' g_lead_of
  have g_taken_down := w_taken_down (P := P) (w := w) (mg := mg) (base := base) (cm := cm) D_taken_down d_lead_of
  have d_taken_down := D_taken_down.mk' g_taken_down
  have g_rank_of := w_rank_of (P := P) (w := w) (mg := mg) (base := base) (cm := cm) D_rank_of d_taken_down d_lead_of z_len
  have d_rank_of := D_rank_of.mk' g_rank_of
  have g_do_alternate := w_do_alternate (P := P) (w := w) (mg := mg) (base := base) (cm := cm) D_do_alternate 
  have d_do_alternate := D_do_alternate.mk' g_do_alternate
  have g_near_by := w_near_by (P := P) (w := w) (mg := mg) (base := base) (cm := cm) D_near_by d_ends_by d_do_alternate
  have d_near_by := D_near_by.mk' g_near_by
  have g_row_of := w_row_of (P := P) (w := w) (mg := mg) (base := base) (cm := cm) D_row_of 
  have d_row_of := D_row_of.mk' g_row_of
  have g_rows_by := w_rows_by (P := P) (w := w) (mg := mg) (base := base) (cm := cm) D_rows_by d_near_by d_letters_by d_row_of
  have d_rows_by := D_rows_by.mk' g_rows_by
  have g_rank_by := w_rank_by (P := P) (w := w) (mg := mg) (base := base) (cm := cm) D_rank_by d_rank_of d_rows_by z_list
  have d_rank_by := D_rank_by.mk' g_rank_by
  have g_kind_by := w_kind_by (P := P) (w := w) (mg := mg) (base := base) (cm := cm) D_kind_by d_rank_by d_sides_by d_rim_count_by
  have d_kind_by := D_kind_by.mk' g_kind_by
  have g_kind := w_kind (P := P) (w := w) (mg := mg) (base := base) (cm := cm) D_kind d_check_sewing d_kind_by
  have d_kind := D_kind.mk' g_kind
  have g_rim_count := w_rim_count (P := P) (w := w) (mg := mg) (base := base) (cm := cm) D_rim_count d_check_sewing d_rim_count_by
  have d_rim_count := D_rim_count.mk' g_rim_count
  have g_rank := w_rank (P := P) (w := w) (mg := mg) (base := base) (cm := cm) D_rank d_check_sewing d_rank_by
  have d_rank := D_rank.mk' g_rank
  have g_check_word := w_check_word (P := P) (w := w) (mg := mg) (base := base) (cm := cm) D_check_word d_is_worded
  have d_check_word := D_check_word.mk' g_check_word
  have g_letters := w_letters (P := P) (w := w) (mg := mg) (base := base) (cm := cm) D_letters d_check_word d_letters_by
  have d_letters := D_letters.mk' g_letters
  have g__law_kind_right := w__law_kind_right (P := P) (w := w) (mg := mg) (base := base) (cm := cm) D__law_kind_right d__law_plain d__law_same d_plain_form d_is_sewing d_letters d_rank d_rim_count d_kind dk_plain_form_0
  have d__law_kind_right := D__law_kind_right.mk' g__law_kind_right
  have g__law_round := w__law_round (P := P) (w := w) (mg := mg) (base := base) (cm := cm) D__law_round d__law_take d_kinds_of d__law_kind_right d_plain_form z_int z_range
  have d__law_round := D__law_round.mk' g__law_round
  have g__law_well := w__law_well (P := P) (w := w) (mg := mg) (base := base) (cm := cm) D__law_well z_abs z_int z_len z_sum
  have d__law_well := D__law_well.mk' g__law_well
  have g_law := w_law (P := P) (w := w) (mg := mg) (base := base) (cm := cm) D_law d__law_round d__law_well z_all z_len z_max z_min z_range
  exact g_law
end
end W_bandhems_k19_whole_plain_forms

/-! K19L: the kinds of up to twelve bands, one by one. -/
namespace W_bandhems_k19_whole_plain_forms
open G
def isB (o : Option T) : Bool := match o with
  | some (.p (.bl b)) => b
  | _ => false
theorem isB_is {o : Option T} (h : isB o = true) : o = some (.p (.bl true)) := by
  unfold isB at h
  split at h
  · rw [h]
  · cases h
abbrev Kd := Nat × Nat × Nat
def kD (k : Kd) : D := .tup [.int k.1, .int k.2.1, .int k.2.2]
/-- the kinds of n bands, upwards -/
def ksL (n : Nat) : List Kd := (List.range (n + 1)).flatMap fun i => (if 1 ≤ n - i then [(i + 1, 1, n - i)] else []) ++ (if (n - i) % 2 = 0 then [(i + 1, 2, n - i)] else [])
def right (k : Kd) : Bool := isB (ap m__law_kind_right [kD k])
def plD (k : Kd) : D := match ap m_plain_form [kD k] with
  | some (.p d) => d
  | _ => .non
def plOk (k : Kd) : Bool := match ap m_plain_form [kD k] with
  | some (.p _) => true
  | _ => false
def notIn (x : D) (xs : List D) : Bool := match cInDeep x (.lst xs) with
  | some (.bl b) => !b
  | _ => false
def sep : List Kd → List Kd → Bool
  | _, [] => true
  | done, k :: ks => plOk k && notIn (plD k) (done.map plD) && sep (done ++ [k]) ks
theorem its_list : ∀ {ds : List D} {ks : List Kd}, (ds.map its = ks.map fun k => some [(k.1 : Int), (k.2.1 : Int), (k.2.2 : Int)]) → ds = ks.map kD
  | [], [], _ => rfl
  | [], _ :: _, h => by simp at h
  | _ :: _, [], h => by simp at h
  | d :: ds, k :: ks, h => by
    simp only [List.map_cons, List.cons.injEq] at h
    rw [its_list h.2, its_is h.1]
    rfl
theorem plOk_is {k : Kd} (h : plOk k = true) : ap m_plain_form [kD k] = some (.p (plD k)) := by
  unfold plOk at h
  unfold plD
  split at h
  · rename_i e
    rw [e]
  · cases h
theorem notIn_is {x : D} {xs : List D} (h : notIn x xs = true) : cInDeep x (.lst xs) = some (.bl false) := by
  unfold notIn at h
  split at h
  · rename_i b e
    rw [e]
    cases b <;> simp_all
  · cases h
theorem sep_12 : ((List.range 13).all fun n => sep [] (ksL n)) = true := by decide +kernel
/-! kinds_of -/
def key (k : Kd) : List Int := [k.1, k.2.1, k.2.2]
theorem key_inj {a b : Kd} (h : key a = key b) : a = b := by
  obtain ⟨a1, a2, a3⟩ := a
  obtain ⟨b1, b2, b3⟩ := b
  simp only [key, List.cons.injEq, and_true] at h
  obtain ⟨h1, h2, h3⟩ := h
  simp only [Prod.mk.injEq]
  refine ⟨?_, ?_, ?_⟩ <;> omega
theorem its_kD (k : Kd) : its (kD k) = some (key k) := rfl
theorem sort_k {L M : List Kd} (hp : M.Perm L) (hs : M.Pairwise fun a b => key a < key b) : (L.map kD).mergeSort le3 = M.map kD := by
  rw [← List.map_mergeSort (r := fun a b => decide (key a ≤ key b)) (s := le3) (f := kD) (l := L) (fun a _ b _ => by
    show decide (key a ≤ key b) = !(decide (key b < key a))
    rw [Bool.eq_iff_iff]
    simp)]
  congr 1
  refine List.Perm.eq_of_pairwise (le := fun a b => key a ≤ key b) (fun a b _ _ h1 h2 => key_inj (List.le_antisymm h1 h2)) ?_ (hs.imp fun h => List.le_of_lt h) ((List.mergeSort_perm L _).trans hp.symm)
  have := List.pairwise_mergeSort (le := fun a b : Kd => decide (key a ≤ key b)) (fun a b c h1 h2 => by
    simp only [decide_eq_true_eq] at h1 h2 ⊢
    exact List.le_trans h1 h2) (fun a b => by
    simp only [Bool.or_eq_true, decide_eq_true_eq]
    exact List.le_total _ _) L
  exact this.imp fun h => by simpa using h
/-- the kinds as the program meets them -/
def ksU (n : Nat) : List Kd := (List.range (n + 1)).flatMap fun r => (if 1 ≤ r then [(n + 1 - r, 1, r)] else []) ++ (if r % 2 = 0 then [(n + 1 - r, 2, r)] else [])
def kbA : Sm := sAsg 1 (nLc2 [2, 3] [3] (iRng1 (aCons (eOp cAdd (eVar 0) (eC (.int 1))) aNil)) (hName 2) bYes (iSeq (eTup (aCons (eC c_ONE_SIDE) (aCons (eC c_TWO_SIDES) aNil)))) (hName 3) bYes e_kinds_by_1)
def kbB : Am := aCons (eFrz (nLc [4] (iSeq (eKeep 1)) (hName 4) (bOf (eFrz (nCall 1 m_is_kinded (aCons (eKeep 4) aNil)))) e_kinds_by_2)) aNil
def kb1 (n : Nat) : Rho := match kbA [.v (.p (.int n)), .no, .no, .no, .no] with
  | some (.nx ρ) => ρ
  | _ => []
def kb1Ok (n : Nat) : Bool := match kbA [.v (.p (.int n)), .no, .no, .no, .no] with
  | some (.nx _) => true
  | _ => false
def kb2 (n : Nat) : Rho := match kbB (kb1 n) with
  | some (_, ρ) => ρ
  | _ => []
def kb2Ok (n : Nat) : Bool := match kbB (kb1 n) with
  | some ([.val (.lst ds)], _) => decide (ds.map its = (ksU n).map fun k => some [(k.1 : Int), (k.2.1 : Int), (k.2.2 : Int)])
  | _ => false
theorem kb1_is {n : Nat} (h : kb1Ok n = true) : kbA [.v (.p (.int n)), .no, .no, .no, .no] = some (.nx (kb1 n)) := by
  unfold kb1Ok at h
  unfold kb1
  split at h
  · rename_i e
    rw [e]
  · cases h
theorem kb2_is {n : Nat} (h : kb2Ok n = true) : kbB (kb1 n) = some ([.val (.lst ((ksU n).map kD))], kb2 n) := by
  unfold kb2Ok at h
  unfold kb2
  split at h
  · rename_i ds _ e
    rw [e, its_list (of_decide_eq_true h)]
  · cases h
def sorted12 (n : Nat) : Bool := (ksL n).isPerm (ksU n) && decide ((ksL n).Pairwise fun a b => key a < key b)
def chk (n : Nat) : Bool := match ap m_check_number [.int n, .int 0, .int 12] with
  | some (.p .non) => true
  | _ => false
theorem chk_is {n : Nat} (h : chk n = true) : ap m_check_number [.int n, .int 0, c_MOST] = some (.p .non) := by
  unfold chk at h
  split at h
  · rename_i e; exact e
  · cases h
theorem all_12 : ((List.range 13).all fun n => kb1Ok n && kb2Ok n && sorted12 n && chk n) = true := by decide +kernel
theorem kinds_by_ok {n : Nat} (hn : n ≤ 12) : ap m_kinds_by [.int n] = some (.ls ((ksL n).map kD)) := by
  have h := List.all_eq_true.mp all_12 n (List.mem_range.mpr (by omega))
  simp only [Bool.and_eq_true, sorted12, decide_eq_true_eq] at h
  obtain ⟨⟨⟨h1, h2⟩, h3, h4⟩, h5⟩ := h
  have e1 := kb1_is h1
  have e2 := kb2_is h2
  have e3 := sort_k (List.isPerm_iff.mp h3) h4
  have ha : ((ksU n).map kD).all alk3 = true := by
    rw [List.all_map, List.all_eq_true]
    exact fun k _ => rfl
  have e4 : cSortTt [.lst ((ksU n).map kD)] = some ((ksL n).map kD) := by
    simp only [cSortTt, ha, if_true, e3]
  have hb : b_kinds_by = sSeq kbA (sRet (nCb cSortTt kbB)) := rfl
  rw [ap, m_kinds_by, runD_ap, hb]
  simp only [slP_cons, slP_nil, List.replicate, List.cons_append, List.nil_append, sSeq_ap, e1, Option.bind_some]
  simp [e2, e4]
theorem kinds_of_ok {n : Nat} (hn : n ≤ 12) : ap m_kinds_of [.int n] = some (.p (.tup ((ksL n).map kD))) := by
  have h := List.all_eq_true.mp all_12 n (List.mem_range.mpr (by omega))
  simp only [Bool.and_eq_true] at h
  have e1 := chk_is h.2
  have e2 := kinds_by_ok hn
  rw [ap, m_kinds_of, runD_ap]
  generalize (ksL n).map kD = ks at *
  simp [b_kinds_of, e1, e2, cTuple]
end W_bandhems_k19_whole_plain_forms

/-! K19M: each kind's plain form is right: computed. -/
namespace W_bandhems_k19_whole_plain_forms
theorem right_0 : (ksL 0).all right = true := by decide +kernel
theorem right_1 : (ksL 1).all right = true := by decide +kernel
theorem right_2 : (ksL 2).all right = true := by decide +kernel
theorem right_3 : (ksL 3).all right = true := by decide +kernel
theorem right_4 : (ksL 4).all right = true := by decide +kernel
theorem right_5 : (ksL 5).all right = true := by decide +kernel
theorem right_6 : (ksL 6).all right = true := by decide +kernel
end W_bandhems_k19_whole_plain_forms

/-! K19P: each kind's plain form is right: computed (the greater ones, one by one). -/
namespace W_bandhems_k19_whole_plain_forms
theorem r_1_1_7 : right (1, 1, 7) = true := by decide +kernel
theorem r_2_1_6 : right (2, 1, 6) = true := by decide +kernel
theorem r_2_2_6 : right (2, 2, 6) = true := by decide +kernel
theorem r_3_1_5 : right (3, 1, 5) = true := by decide +kernel
theorem r_4_1_4 : right (4, 1, 4) = true := by decide +kernel
theorem r_4_2_4 : right (4, 2, 4) = true := by decide +kernel
theorem r_5_1_3 : right (5, 1, 3) = true := by decide +kernel
theorem r_6_1_2 : right (6, 1, 2) = true := by decide +kernel
theorem r_6_2_2 : right (6, 2, 2) = true := by decide +kernel
theorem r_7_1_1 : right (7, 1, 1) = true := by decide +kernel
theorem r_8_2_0 : right (8, 2, 0) = true := by decide +kernel
theorem ks_7 : ksL 7 = [(1, 1, 7), (2, 1, 6), (2, 2, 6), (3, 1, 5), (4, 1, 4), (4, 2, 4), (5, 1, 3), (6, 1, 2), (6, 2, 2), (7, 1, 1), (8, 2, 0)] := by decide +kernel
theorem right_7 : (ksL 7).all right = true := by
  rw [ks_7]
  simp only [List.all_cons, List.all_nil, Bool.and_self, r_1_1_7, r_2_1_6, r_2_2_6, r_3_1_5, r_4_1_4, r_4_2_4, r_5_1_3, r_6_1_2, r_6_2_2, r_7_1_1, r_8_2_0]
theorem r_1_1_8 : right (1, 1, 8) = true := by decide +kernel
theorem r_1_2_8 : right (1, 2, 8) = true := by decide +kernel
theorem r_2_1_7 : right (2, 1, 7) = true := by decide +kernel
theorem r_3_1_6 : right (3, 1, 6) = true := by decide +kernel
theorem r_3_2_6 : right (3, 2, 6) = true := by decide +kernel
theorem r_4_1_5 : right (4, 1, 5) = true := by decide +kernel
theorem r_5_1_4 : right (5, 1, 4) = true := by decide +kernel
theorem r_5_2_4 : right (5, 2, 4) = true := by decide +kernel
theorem r_6_1_3 : right (6, 1, 3) = true := by decide +kernel
theorem r_7_1_2 : right (7, 1, 2) = true := by decide +kernel
theorem r_7_2_2 : right (7, 2, 2) = true := by decide +kernel
theorem r_8_1_1 : right (8, 1, 1) = true := by decide +kernel
theorem r_9_2_0 : right (9, 2, 0) = true := by decide +kernel
theorem ks_8 : ksL 8 = [(1, 1, 8), (1, 2, 8), (2, 1, 7), (3, 1, 6), (3, 2, 6), (4, 1, 5), (5, 1, 4), (5, 2, 4), (6, 1, 3), (7, 1, 2), (7, 2, 2), (8, 1, 1), (9, 2, 0)] := by decide +kernel
theorem right_8 : (ksL 8).all right = true := by
  rw [ks_8]
  simp only [List.all_cons, List.all_nil, Bool.and_self, r_1_1_8, r_1_2_8, r_2_1_7, r_3_1_6, r_3_2_6, r_4_1_5, r_5_1_4, r_5_2_4, r_6_1_3, r_7_1_2, r_7_2_2, r_8_1_1, r_9_2_0]
theorem r_1_1_9 : right (1, 1, 9) = true := by decide +kernel
theorem r_2_1_8 : right (2, 1, 8) = true := by decide +kernel
theorem r_2_2_8 : right (2, 2, 8) = true := by decide +kernel
theorem r_3_1_7 : right (3, 1, 7) = true := by decide +kernel
theorem r_4_1_6 : right (4, 1, 6) = true := by decide +kernel
theorem r_4_2_6 : right (4, 2, 6) = true := by decide +kernel
theorem r_5_1_5 : right (5, 1, 5) = true := by decide +kernel
theorem r_6_1_4 : right (6, 1, 4) = true := by decide +kernel
theorem r_6_2_4 : right (6, 2, 4) = true := by decide +kernel
theorem r_7_1_3 : right (7, 1, 3) = true := by decide +kernel
theorem r_8_1_2 : right (8, 1, 2) = true := by decide +kernel
theorem r_8_2_2 : right (8, 2, 2) = true := by decide +kernel
theorem r_9_1_1 : right (9, 1, 1) = true := by decide +kernel
theorem r_10_2_0 : right (10, 2, 0) = true := by decide +kernel
theorem ks_9 : ksL 9 = [(1, 1, 9), (2, 1, 8), (2, 2, 8), (3, 1, 7), (4, 1, 6), (4, 2, 6), (5, 1, 5), (6, 1, 4), (6, 2, 4), (7, 1, 3), (8, 1, 2), (8, 2, 2), (9, 1, 1), (10, 2, 0)] := by decide +kernel
theorem right_9 : (ksL 9).all right = true := by
  rw [ks_9]
  simp only [List.all_cons, List.all_nil, Bool.and_self, r_1_1_9, r_2_1_8, r_2_2_8, r_3_1_7, r_4_1_6, r_4_2_6, r_5_1_5, r_6_1_4, r_6_2_4, r_7_1_3, r_8_1_2, r_8_2_2, r_9_1_1, r_10_2_0]
theorem r_1_1_10 : right (1, 1, 10) = true := by decide +kernel
theorem r_1_2_10 : right (1, 2, 10) = true := by decide +kernel
theorem r_2_1_9 : right (2, 1, 9) = true := by decide +kernel
theorem r_3_1_8 : right (3, 1, 8) = true := by decide +kernel
theorem r_3_2_8 : right (3, 2, 8) = true := by decide +kernel
theorem r_4_1_7 : right (4, 1, 7) = true := by decide +kernel
theorem r_5_1_6 : right (5, 1, 6) = true := by decide +kernel
theorem r_5_2_6 : right (5, 2, 6) = true := by decide +kernel
theorem r_6_1_5 : right (6, 1, 5) = true := by decide +kernel
theorem r_7_1_4 : right (7, 1, 4) = true := by decide +kernel
theorem r_7_2_4 : right (7, 2, 4) = true := by decide +kernel
theorem r_8_1_3 : right (8, 1, 3) = true := by decide +kernel
theorem r_9_1_2 : right (9, 1, 2) = true := by decide +kernel
theorem r_9_2_2 : right (9, 2, 2) = true := by decide +kernel
theorem r_10_1_1 : right (10, 1, 1) = true := by decide +kernel
theorem r_11_2_0 : right (11, 2, 0) = true := by decide +kernel
theorem ks_10 : ksL 10 = [(1, 1, 10), (1, 2, 10), (2, 1, 9), (3, 1, 8), (3, 2, 8), (4, 1, 7), (5, 1, 6), (5, 2, 6), (6, 1, 5), (7, 1, 4), (7, 2, 4), (8, 1, 3), (9, 1, 2), (9, 2, 2), (10, 1, 1), (11, 2, 0)] := by decide +kernel
theorem right_10 : (ksL 10).all right = true := by
  rw [ks_10]
  simp only [List.all_cons, List.all_nil, Bool.and_self, r_1_1_10, r_1_2_10, r_2_1_9, r_3_1_8, r_3_2_8, r_4_1_7, r_5_1_6, r_5_2_6, r_6_1_5, r_7_1_4, r_7_2_4, r_8_1_3, r_9_1_2, r_9_2_2, r_10_1_1, r_11_2_0]
theorem r_1_1_11 : right (1, 1, 11) = true := by decide +kernel
theorem r_2_1_10 : right (2, 1, 10) = true := by decide +kernel
theorem r_2_2_10 : right (2, 2, 10) = true := by decide +kernel
theorem r_3_1_9 : right (3, 1, 9) = true := by decide +kernel
theorem r_4_1_8 : right (4, 1, 8) = true := by decide +kernel
theorem r_4_2_8 : right (4, 2, 8) = true := by decide +kernel
theorem r_5_1_7 : right (5, 1, 7) = true := by decide +kernel
theorem r_6_1_6 : right (6, 1, 6) = true := by decide +kernel
theorem r_6_2_6 : right (6, 2, 6) = true := by decide +kernel
theorem r_7_1_5 : right (7, 1, 5) = true := by decide +kernel
theorem r_8_1_4 : right (8, 1, 4) = true := by decide +kernel
theorem r_8_2_4 : right (8, 2, 4) = true := by decide +kernel
theorem r_9_1_3 : right (9, 1, 3) = true := by decide +kernel
theorem r_10_1_2 : right (10, 1, 2) = true := by decide +kernel
theorem r_10_2_2 : right (10, 2, 2) = true := by decide +kernel
theorem r_11_1_1 : right (11, 1, 1) = true := by decide +kernel
theorem r_12_2_0 : right (12, 2, 0) = true := by decide +kernel
theorem ks_11 : ksL 11 = [(1, 1, 11), (2, 1, 10), (2, 2, 10), (3, 1, 9), (4, 1, 8), (4, 2, 8), (5, 1, 7), (6, 1, 6), (6, 2, 6), (7, 1, 5), (8, 1, 4), (8, 2, 4), (9, 1, 3), (10, 1, 2), (10, 2, 2), (11, 1, 1), (12, 2, 0)] := by decide +kernel
theorem right_11 : (ksL 11).all right = true := by
  rw [ks_11]
  simp only [List.all_cons, List.all_nil, Bool.and_self, r_1_1_11, r_2_1_10, r_2_2_10, r_3_1_9, r_4_1_8, r_4_2_8, r_5_1_7, r_6_1_6, r_6_2_6, r_7_1_5, r_8_1_4, r_8_2_4, r_9_1_3, r_10_1_2, r_10_2_2, r_11_1_1, r_12_2_0]
theorem r_1_1_12 : right (1, 1, 12) = true := by decide +kernel
theorem r_1_2_12 : right (1, 2, 12) = true := by decide +kernel
theorem r_2_1_11 : right (2, 1, 11) = true := by decide +kernel
theorem r_3_1_10 : right (3, 1, 10) = true := by decide +kernel
theorem r_3_2_10 : right (3, 2, 10) = true := by decide +kernel
theorem r_4_1_9 : right (4, 1, 9) = true := by decide +kernel
theorem r_5_1_8 : right (5, 1, 8) = true := by decide +kernel
theorem r_5_2_8 : right (5, 2, 8) = true := by decide +kernel
theorem r_6_1_7 : right (6, 1, 7) = true := by decide +kernel
theorem r_7_1_6 : right (7, 1, 6) = true := by decide +kernel
theorem r_7_2_6 : right (7, 2, 6) = true := by decide +kernel
theorem r_8_1_5 : right (8, 1, 5) = true := by decide +kernel
theorem r_9_1_4 : right (9, 1, 4) = true := by decide +kernel
theorem r_9_2_4 : right (9, 2, 4) = true := by decide +kernel
theorem r_10_1_3 : right (10, 1, 3) = true := by decide +kernel
theorem r_11_1_2 : right (11, 1, 2) = true := by decide +kernel
theorem r_11_2_2 : right (11, 2, 2) = true := by decide +kernel
theorem r_12_1_1 : right (12, 1, 1) = true := by decide +kernel
theorem r_13_2_0 : right (13, 2, 0) = true := by decide +kernel
theorem ks_12 : ksL 12 = [(1, 1, 12), (1, 2, 12), (2, 1, 11), (3, 1, 10), (3, 2, 10), (4, 1, 9), (5, 1, 8), (5, 2, 8), (6, 1, 7), (7, 1, 6), (7, 2, 6), (8, 1, 5), (9, 1, 4), (9, 2, 4), (10, 1, 3), (11, 1, 2), (11, 2, 2), (12, 1, 1), (13, 2, 0)] := by decide +kernel
theorem right_12 : (ksL 12).all right = true := by
  rw [ks_12]
  simp only [List.all_cons, List.all_nil, Bool.and_self, r_1_1_12, r_1_2_12, r_2_1_11, r_3_1_10, r_3_2_10, r_4_1_9, r_5_1_8, r_5_2_8, r_6_1_7, r_7_1_6, r_7_2_6, r_8_1_5, r_9_1_4, r_9_2_4, r_10_1_3, r_11_1_2, r_11_2_2, r_12_1_1, r_13_2_0]
theorem right_to : ∀ n, n ≤ 12 → (ksL n).all right = true
  | 0, _ => right_0
  | 1, _ => right_1
  | 2, _ => right_2
  | 3, _ => right_3
  | 4, _ => right_4
  | 5, _ => right_5
  | 6, _ => right_6
  | 7, _ => right_7
  | 8, _ => right_8
  | 9, _ => right_9
  | 10, _ => right_10
  | 11, _ => right_11
  | 12, _ => right_12
  | n + 13, h => absurd h (by omega)
end W_bandhems_k19_whole_plain_forms

/-! K19N: the round, the law. (Drawing as in K09W, K09X.) -/
namespace W_bandhems_k19_whole_plain_forms
open G
abbrev I' (i : Int) : Sl := .v (.p (.int i))
abbrev V' (d : D) : Sl := .v (.p d)
abbrev pot (a s c : Int) : T := .ls [.int a, .int s, .int c]
theorem take_ok (a s c n : Int) (h1 : 0 < n) (h2 : n < 1000000) : ∃ d a' s' c', 0 ≤ d ∧ d < n ∧ m__law_take [.pin (pot a s c), I' n] = some (.p (.int d), [.pin (pot a' s' c'), I' n]) := by
  by_cases h : 0 < a
  · refine ⟨a % n, a / n, s, c, Int.emod_nonneg _ (by omega), Int.emod_lt_of_pos _ h1, ?_⟩
    have e : n.natAbs < 1073741824 := by omega
    simp only [m__law_take, runD_ap]
    simp [b__law_take, h, cDivmod, h1, e, hSub_ap, isLs_ap, putAt_ap, L2.ixN]
  · have g1 : ∀ x : Int, mulOk x (x % 28657 + 40009) = true := fun x => mulOk_r (by omega)
    have g2 : ∀ x : Int, mulOk 50023 x = true := fun x => mulOk_l (by decide)
    have g3 : Nat.log2 83 < 9000 := by decide
    refine ⟨((s * (s % 28657 + 40009) + 50023 * (c + 1) + 17) % 2147483563) / 83 % n, a, (s * (s % 28657 + 40009) + 50023 * (c + 1) + 17) % 2147483563, c + 1, Int.emod_nonneg _ (by omega), Int.emod_lt_of_pos _ h1, ?_⟩
    simp only [m__law_take, runD_ap]
    simp [b__law_take, h, h1, g1, g2, g3, isLs_ap, putAt_ap, L2.ixN]
theorem take_nat (a s c : Int) (n : Nat) (h1 : 0 < n) (h2 : n < 1000000) : ∃ (i : Nat) (a' s' c' : Int), i < n ∧ m__law_take [.pin (pot a s c), I' n] = some (.p (.int i), [.pin (pot a' s' c'), I' n]) := by
  obtain ⟨d, a', s', c', l, u, e⟩ := take_ok a s c n (by omega) (by omega)
  obtain ⟨i, rfl⟩ : ∃ i : Nat, d = i := ⟨d.toNat, by omega⟩
  exact ⟨i, a', s', c', by omega, e⟩
theorem take_z (a s c n : Int) (h1 : 0 < n) (h2 : n < 1000000) : ∃ (i : Nat) (a' s' c' : Int), (i : Int) < n ∧ m__law_take [.pin (pot a s c), I' n] = some (.p (.int i), [.pin (pot a' s' c'), I' n]) := by
  obtain ⟨d, a', s', c', l, u, e⟩ := take_ok a s c n h1 h2
  obtain ⟨i, rfl⟩ : ∃ i : Nat, d = i := ⟨d.toNat, by omega⟩
  exact ⟨i, a', s', c', u, e⟩
theorem right_is {n : Nat} (hn : n ≤ 12) {k : Kd} (m : k ∈ ksL n) : ap m__law_kind_right [kD k] = some (.p (.bl true)) :=
  isB_is (List.all_eq_true.mp (right_to n hn) k m)
theorem kinds_at {n : Nat} (hn : n ≤ 12) : ap m_kinds_of [.int n] = some (.p (.tup ((ksL n).map kD))) := kinds_of_ok hn
theorem sep_at : ∀ {done ks : List Kd}, sep done ks = true → ∀ i (hi : i < ks.length), plOk ks[i] = true ∧ notIn (plD ks[i]) ((done ++ ks.take i).map plD) = true
  | done, k :: ks, h, 0, _ => by
    simp only [sep, Bool.and_eq_true] at h
    exact ⟨h.1.1, by simpa using h.1.2⟩
  | done, k :: ks, h, i + 1, hi => by
    simp only [sep, Bool.and_eq_true] at h
    have := sep_at h.2 i (by simpa using hi)
    simpa [List.append_assoc] using this
theorem mem_ks {f s r : Nat} (hf : 1 ≤ f) (h : (s = 1 ∧ 1 ≤ r) ∨ (s = 2 ∧ r % 2 = 0)) : (f, s, r) ∈ ksL (f + r - 1) := by
  unfold ksL
  refine List.mem_flatMap.mpr ⟨f - 1, List.mem_range.mpr (by omega), ?_⟩
  have e1 : f + r - 1 - (f - 1) = r := by omega
  have e2 : f - 1 + 1 = f := by omega
  rw [e1, e2]
  rcases h with ⟨rfl, h⟩ | ⟨rfl, h⟩ <;> simp [h]
def l3 : Option (List D) → Sl
  | none => .no
  | some L => .v (.ls L)
theorem inner_ok {n : Nat} (hn : n ≤ 12) (p : Sl) (x1 x2 x5 x6 : Sl) (o4 : Option D) : ∃ o4' L, forF (hName 4) l__law_round_1 ((ksL n).map kD) [p, x1, x2, .v (.ls []), lp o4, x5, x6] = some (.nx [p, x1, x2, .v (.ls L), lp o4', x5, x6]) := by
  have hs := List.all_eq_true.mp sep_12 n (List.mem_range.mpr (by omega))
  have hlen : (ksL n).length ≤ 26 := by
    have : ∀ n, n ≤ 12 → (ksL n).length ≤ 26 := by decide +kernel
    exact this n hn
  obtain ⟨ρ', e, o, rfl⟩ := forF_rel (h := hName 4) (b := l__law_round_1) (ds := (ksL n).map kD) (ρ := [p, x1, x2, .v (.ls []), lp o4, x5, x6])
    (fun i ρ => ∃ o, ρ = [p, x1, x2, .v (.ls (((ksL n).take i).map plD)), lp o, x5, x6]) ⟨o4, rfl⟩ (by
    rintro i hi _ ⟨o, rfl⟩
    have hi2 : i < (ksL n).length := by simpa using hi
    obtain ⟨h1, h2⟩ := sep_at hs i hi2
    have e1 := right_is hn (List.getElem_mem hi2)
    have e2 := plOk_is h1
    have e3 := notIn_is h2
    rw [List.nil_append] at e3
    have up : ((ksL n).take (i + 1)).map plD = ((ksL n).take i).map plD ++ [plD (ksL n)[i]] := by
      rw [List.take_succ, List.getElem?_eq_getElem hi2, List.map_append]; rfl
    have hz : (((ksL n).take i).map plD).length < big := by
      rw [List.length_map, List.length_take, big_is]; omega
    rw [List.getElem_map, up]
    refine ⟨[p, x1, x2, .v (.ls (((ksL n).take i).map plD)), V' (kD (ksL n)[i]), x5, x6], [p, x1, x2, .v (.ls (((ksL n).take i).map plD ++ [plD (ksL n)[i]])), V' (kD (ksL n)[i]), x5, x6], by cases o <;> simp, .inl ?_, some (kD (ksL n)[i]), rfl⟩
    generalize ((ksL n).take i).map plD = L at *
    generalize plD (ksL n)[i] = d at *
    generalize kD (ksL n)[i] = k at *
    simp [l__law_round_1, e1, e2, e3, isLs_ap, mApp, hz])
  exact ⟨o, _, e⟩
theorem number_ok {n : Nat} (hn : n ≤ 12) (p : Sl) (o3 : Option (List D)) (o4 : Option D) : ∃ o3' o4', l__law_round_2 [p, I' n, .no, l3 o3, lp o4, .no, .no] = some (.nx [p, I' n, .no, l3 o3', lp o4', .no, .no]) := by
  have e1 := kinds_at hn
  obtain ⟨o4', L, e2⟩ := inner_ok hn p (I' n) .no .no .no o4
  refine ⟨some L, o4', ?_⟩
  have g0 : 0 ≤ big := Nat.zero_le _
  generalize (ksL n).map kD = ks at *
  cases o3 <;> simp [l__law_round_2, l3, e1, seqD, e2, g0]
theorem right_at {R J : Int} (h0 : 0 ≤ R) (h1 : R < 13) (h2 : 0 ≤ J) (h3 : J < 13 - R) (sd : Nat) (h : (sd = 1 ∧ 1 ≤ R) ∨ (sd = 2 ∧ R % 2 = 0)) : ap m__law_kind_right [.tup [.int (1 + J), .int (sd : Int), .int R]] = some (.p (.bl true)) := by
  obtain ⟨r, rfl⟩ : ∃ r : Nat, R = r := ⟨R.toNat, by omega⟩
  obtain ⟨j, rfl⟩ : ∃ j : Nat, J = j := ⟨J.toNat, by omega⟩
  have m := mem_ks (f := j + 1) (s := sd) (r := r) (by omega) (by omega)
  have := right_is (n := j + 1 + r - 1) (by omega) m
  have e : kD (j + 1, sd, r) = .tup [.int (1 + (j : Int)), .int sd, .int r] := by
    unfold kD
    have : ((j + 1 : Nat) : Int) = 1 + j := by omega
    rw [this]
  rw [e] at this
  exact this
theorem turn_ok (a s c : Int) (x1 : Sl) (t : Int) (z3 : Sl) (o4 o5 o6 : Option D) : ∃ a' s' c' o4' o5' o6', l__law_round_3 [.pin (pot a s c), x1, I' t, z3, lp o4, lp o5, lp o6] = some (.nx [.pin (pot a' s' c'), x1, I' t, z3, lp o4', lp o5', lp o6']) := by
  obtain ⟨R, a1, s1, c1, hr0, hr, e1⟩ := take_ok a s c 13 (by omega) (by omega)
  obtain ⟨J, a2, s2, c2, hj0, hj, e2⟩ := take_ok a1 s1 c1 (13 - R) (by omega) (by omega)
  have right := right_at hr0 hr hj0 hj
  have g3 : 3 ≤ big := by decide
  by_cases h1 : R % 2 = 1
  · have e3 : ap m__law_kind_right [.tup [.int (1 + J), .int 1, .int R]] = some (.p (.bl true)) := right 1 (.inl ⟨rfl, by omega⟩)
    refine ⟨a2, s2, c2, some (.tup [.int (1 + J), .int 1, .int R]), some (.int R), some (.int (1 + J)), ?_⟩
    simp [l__law_round_3, argO_zero, refAt_zero, backO, e1, e2, T.root, Sl.t, h1, g3, e3]
  · by_cases h2 : 0 < R
    · obtain ⟨d, a3, s3, c3, _, _, e4⟩ := take_ok a2 s2 c2 2 (by omega) (by omega)
      by_cases h3 : d = 0
      · have e3 : ap m__law_kind_right [.tup [.int (1 + J), .int 1, .int R]] = some (.p (.bl true)) := right 1 (.inl ⟨rfl, by omega⟩)
        refine ⟨a3, s3, c3, some (.tup [.int (1 + J), .int 1, .int R]), some (.int R), some (.int (1 + J)), ?_⟩
        simp [l__law_round_3, argO_zero, refAt_zero, backO, e1, e2, T.root, Sl.t, h1, h2, h3, g3, e4, e3]
      · have e3 : ap m__law_kind_right [.tup [.int (1 + J), .int 2, .int R]] = some (.p (.bl true)) := right 2 (.inr ⟨rfl, by omega⟩)
        refine ⟨a3, s3, c3, some (.tup [.int (1 + J), .int 2, .int R]), some (.int R), some (.int (1 + J)), ?_⟩
        simp [l__law_round_3, argO_zero, refAt_zero, backO, e1, e2, T.root, Sl.t, h1, h2, h3, g3, e4, e3]
    · have e3 : ap m__law_kind_right [.tup [.int (1 + J), .int 2, .int R]] = some (.p (.bl true)) := right 2 (.inr ⟨rfl, by omega⟩)
      refine ⟨a2, s2, c2, some (.tup [.int (1 + J), .int 2, .int R]), some (.int R), some (.int (1 + J)), ?_⟩
      simp [l__law_round_3, argO_zero, refAt_zero, backO, e1, e2, T.root, Sl.t, h1, h2, g3, e3]
theorem round_ok (a s c : Int) : (m__law_round [.pin (pot a s c)]).map (·.1) = some (.p (.bl true)) := by
  obtain ⟨i, a1, s1, c1, hi, e1⟩ := take_z a s c 13 (by omega) (by omega)
  obtain ⟨j, a2, s2, c2, hj, e2⟩ := take_z a1 s1 c1 3 (by omega) (by omega)
  obtain ⟨q, hq, eq⟩ : ∃ q : Nat, q ≤ 12 ∧ (12 : Int) - j = q := ⟨12 - j, by omega, by omega⟩
  obtain ⟨ρ', e, o1, o3, o4, rfl⟩ := forF_rel (h := hName 1) (b := l__law_round_2) (ds := [.int 0, .int 1, .int 2, .int i, .int q]) (ρ := [.pin (pot a2 s2 c2), .no, .no, .no, .no, .no, .no])
    (fun i ρ => ∃ o1 o3 o4, ρ = [.pin (pot a2 s2 c2), lp o1, .no, l3 o3, lp o4, .no, .no]) ⟨none, none, none, rfl⟩ (by
    rintro k hk _ ⟨o1, o3, o4, rfl⟩
    have hm : ∃ m : Nat, m ≤ 12 ∧ ([.int 0, .int 1, .int 2, .int i, .int q] : List D)[k] = .int m := by
      match k, hk with
      | 0, _ => exact ⟨0, by omega, rfl⟩
      | 1, _ => exact ⟨1, by omega, rfl⟩
      | 2, _ => exact ⟨2, by omega, rfl⟩
      | 3, _ => exact ⟨i, by omega, rfl⟩
      | 4, _ => exact ⟨q, by omega, rfl⟩
    obtain ⟨m, hm, eg⟩ := hm
    rw [eg]
    obtain ⟨o3', o4', e⟩ := number_ok hm (.pin (pot a2 s2 c2)) o3 o4
    exact ⟨[.pin (pot a2 s2 c2), I' m, .no, l3 o3, lp o4, .no, .no], _, by cases o1 <;> simp, .inl e, some (.int m), o3', o4', rfl⟩)
  obtain ⟨ρ2, e3, a4, s4, c4, o2, p4, p5, p6, rfl⟩ := forF_rg (h := hName 2) (b := l__law_round_3) (lo := 0) (n := 6) (ρ := [.pin (pot a2 s2 c2), lp o1, .no, l3 o3, lp o4, .no, .no])
    (fun i ρ => ∃ a s c o2 o4 o5 o6, ρ = [.pin (pot a s c), lp o1, lp o2, l3 o3, lp o4, lp o5, lp o6]) ⟨a2, s2, c2, none, o4, none, none, rfl⟩ (by
    rintro t ht _ ⟨a, s, c, o2, o4, o5, o6, rfl⟩
    obtain ⟨a', s', c', o4', o5', o6', e⟩ := turn_ok a s c (lp o1) (0 + (t : Int)) (l3 o3) o4 o5 o6
    exact ⟨[.pin (pot a s c), lp o1, I' (0 + (t : Int)), l3 o3, lp o4, lp o5, lp o6], _, by cases o2 <;> simp, .inl e, a', s', c', some (.int (0 + (t : Int))), o4', o5', o6', rfl⟩)
  have g5 : 5 ≤ big := by decide
  have r6 : rgOk 6 = true := rgOk_of (by decide)
  rw [m__law_round, runD_ap]
  generalize lp o1 = z1 at *
  generalize l3 o3 = z3 at *
  generalize lp o4 = z4 at *
  simp [b__law_round, argO_zero, refAt_zero, backO, e1, e2, eq, T.root, Sl.t, g5, seqD, e, r6, e3]
theorem well_ok (ns : List Int) (hl : ns.length ≤ 63) (t : Nat) (ht : t < 100) : ∃ a s, ap m__law_well [.lst (ns.map .int), .int t] = some (pot a s 0) := by
  obtain ⟨cell, hc⟩ : ∃ cell, nIf (bOf (eOp cLt (eVar 1) (eCb cLen (aCons (eVar 0) aNil)))) (nVal (eCb cInt (aCons (eIx (eVar 0) (eVar 1)) aNil))) (nVal (eOp cAdd (eOp cAdd (eOp cMul (eC (.int 9311)) (eVar 1)) (eOp cMod (eCb cInt (aCons (eCb cSumX (aCons (eSl (eVar 0) oNone (oSome (eC (.int 2)))) aNil)) aNil)) (eC (.int 1000003)))) (eC (.int 71))))
      [.v (.p (.lst (ns.map .int))), I' t, .no, .no, .no] = some (.p (.int cell), [.v (.p (.lst (ns.map .int))), I' t, .no, .no, .no]) := by
    by_cases h : t < ns.length
    · refine ⟨ns[t], ?_⟩
      simp [h]
    · refine ⟨9311 * t + (cutD ns none (some 2)).sum % 1000003 + 71, ?_⟩
      have g1 : mulOk 9311 (t : Int) = true := mulOk_l (by decide)
      have h' : ¬ (t : Int) < ns.length := by omega
      have g2 : cSumX [.lst ((cutD ns none (some 2)).map .int)] = some (.int (cutD ns none (some 2)).sum) := by
        show (intL _).map _ = _
        have := intL_mp (fun i : Int => i) (cutD ns none (some 2))
        simp [this]
      simp only [nIf_ap, bOf_ap, eOp_ap, eVar_ap, eCb_ap, aCons_ap, aNil_ap, eSl_ap, oNone_ap, oSome_ap, eC_ap, nVal_ap]
      simp [h', g1, cSl, cutD_map, g2]
  obtain ⟨ρ', e, s, o, rfl⟩ := forF_rel (h := hName 4) (b := l__law_well_1) (ds := ((cutD ns none (some 5)) ++ [cell]).map D.int) (ρ := [.v (.p (.lst (ns.map .int))), I' t, I' cell, I' (50021 + 1013 * t), .no])
      (fun i ρ => ∃ s o, ρ = [.v (.p (.lst (ns.map .int))), I' t, I' cell, I' s, lp o]) ⟨_, none, rfl⟩ (by
    rintro i hi _ ⟨s, o, rfl⟩
    rw [List.getElem_map]
    have g1 : ∀ x : Int, mulOk x 45013 = true := fun x => mulOk_r (by decide)
    generalize ((cutD ns none (some 5)) ++ [cell])[i]'(by simpa using hi) = x
    refine ⟨_, _, by simp; rfl, .inl ?_, (s * 45013 + x % 2147483399 + 37) % 2147483563, some (.int x), rfl⟩
    simp [l__law_well_1, g1])
  have g2 : mulOk 1013 (t : Int) = true := mulOk_l (by decide)
  have g6 : (cutD ns none (some 5)).length + 1 ≤ big := by
    have := cutD_len ns none (some 5)
    rw [big_is]
    omega
  have g7 : 3 ≤ big := by decide
  have g8 : 1 ≤ big := by decide
  have g4 : cPow (.int 10) (.int 17) = some (.int (10 ^ 17)) := by simp [cPow]
  rw [List.map_append, List.map_cons, List.map_nil] at e
  refine ⟨if cell < 0 ∨ (10 : Int) ^ 17 ≤ cell then (if cell < 0 then -cell else cell) else 0, s, ?_⟩
  simp only [ap, m__law_well, runD_ap]
  simp only [b__law_well, sSeq_ap, sAsg_ap]
  simp only [slP_cons, slP_nil, List.replicate, List.cons_append, List.nil_append, hc]
  by_cases c1 : cell < 0
  · simp [g2, g4, g6, g7, g8, cSl, cutD_map, cAdd, seqD, c1, e]
  · by_cases c2 : (100000000000000000 : Int) ≤ cell
    · simp [g2, g4, g6, g7, g8, cSl, cutD_map, cAdd, seqD, c1, c2, e]
    · simp [g2, g4, g6, g7, g8, cSl, cutD_map, cAdd, seqD, c1, c2, e]
theorem law_true (ns : List Int) (hl : ns.length ≤ 63) : (m_law [.v (.p (.lst (ns.map .int)))]).map (·.1) = some (.p (.bl true)) := by
  obtain ⟨n, hn, hn2⟩ : ∃ n : Nat, n ≤ 3 ∧ ((cMin2 [.int ns.length, .int 3]).bind fun x => cMax2 [.int 2, x]) = some (.int n) := by
    refine ⟨(if (if (3 : Int) < ns.length then (3 : Int) else ns.length) > 2 then (if (3 : Int) < ns.length then (3 : Int) else ns.length) else 2).toNat, ?_, ?_⟩
    · split <;> split <;> omega
    · simp only [cMin2, cMax2, Option.bind_some]
      congr 2
      split <;> split <;> omega
  have e := lcF_mp (own := [1]) (h := hName 1) (ifs := bYes) (elt := e_law_1) (ρ := [.v (.p (.lst (ns.map .int))), .no]) (fun i : Nat => .int (0 + (i : Int))) (fun _ => .bl true) (xs := List.range n) (by
    intro i hi
    have hi := List.mem_range.mp hi
    obtain ⟨a, s, e1⟩ := well_ok ns hl i (by omega)
    have e2 := round_ok a s 0
    obtain ⟨⟨r, ρ3⟩, e3, e4⟩ := Option.map_eq_some_iff.mp e2
    dsimp only at e4
    subst e4
    refine ⟨[.v (.p (.lst (ns.map .int))), I' i], [.v (.p (.lst (ns.map .int))), I' i], .val (.bl true), [.v (.p (.lst (ns.map .int))), I' i], by simp, rfl, ?_, by simp, by simp [wipeS]⟩
    simp [e_law_1, e1, e3])
  have e2 := cAll_map (fun _ : Nat => true) (List.range n)
  have e3 : ((List.range n).all fun _ => true) = true := by simp
  rw [e3] at e2
  generalize (List.range n).map (fun _ => D.bl true) = bs at e e2
  have er : rgD 0 n = (List.range n).map fun i : Nat => .int (0 + (i : Int)) := rfl
  rw [← er] at e
  have g1 : rgOk (n : Int) = true := rgOk_nat (by omega)
  have g2 : (rgD 0 n).length ≤ big := by rw [er, List.length_map, List.length_range, big_is]; omega
  obtain ⟨x, hx1, hx2⟩ := Option.bind_eq_some_iff.mp hn2
  simp only [m_law, runD_ap]
  simp [b_law, hx1, hx2, g1, g2, wipeS, e, e2, back]
end W_bandhems_k19_whole_plain_forms

open PySem PySem.W PyProof.Rows
set_option maxHeartbeats 0 in
theorem PySem.Challenge.cw_bandhems_k19_whole_plain_forms_holds : PySem.Challenge.rw_bandhems_k19_whole_plain_forms.Holds := by
  w_on; o_law; k_head; (case hw => w_witness2)
  k_fill
  refine L2.walk_ofE (l := PySem.Challenge.rw_bandhems_k19_whole_plain_forms) (n := 63) (k := 12) (x := "script") (CX := L2.CX0) rfl (by decide) rfl ⟨rfl, by decide, by decide⟩ ?F (fun _ _ _ _ h => h)
  case F =>
    intro w mg fa h Y GN hmg
    have KX := PySem.W.kIn_of Y
    obtain ⟨A_Bands, mC_Bands, C_Bands, mk_Bands, kc_Bands, n_Bands_many, n_Bands_partners, n_Bands_twists, ⟨f_Bands___init__, fd_Bands___init__, D_Bands___init__⟩, ⟨f_Bands_behind, fd_Bands_behind, D_Bands_behind⟩, ⟨f_Bands_end_met, fd_Bands_end_met, D_Bands_end_met⟩, ⟨f_Bands_next_gap, fd_Bands_next_gap, D_Bands_next_gap⟩, ⟨f_Bands_rim_from, fd_Bands_rim_from, D_Bands_rim_from⟩, _⟩ : ∃ C, mg "Bands" = some (.ref C) ∧ L2.Cls (L2.KOf KX) C ∧ PySem.W.makesIn (L2.KOf KX) C = true ∧ PySem.W.keepIn (L2.KOf KX) (.ref C) = true ∧ L2.NoAttr (L2.KOf KX) C "many" ∧ L2.NoAttr (L2.KOf KX) C "partners" ∧ L2.NoAttr (L2.KOf KX) C "twists" ∧ (∃ f fd, G.Di (L2.KOf KX) mg C "Bands" "Bands.__init__" W_bandhems_k19_whole_plain_forms.s_Bands___init__ ["self", "sewing"] f fd) ∧ (∃ f fd, G.Dm (L2.KOf KX) C "behind" "Bands.behind" W_bandhems_k19_whole_plain_forms.s_Bands_behind ["self", "end", "way"] f fd) ∧ (∃ f fd, G.Dm (L2.KOf KX) C "end_met" "Bands.end_met" W_bandhems_k19_whole_plain_forms.s_Bands_end_met ["self", "gap", "way"] f fd) ∧ (∃ f fd, G.Dm (L2.KOf KX) C "next_gap" "Bands.next_gap" W_bandhems_k19_whole_plain_forms.s_Bands_next_gap ["self", "gap", "way"] f fd) ∧ (∃ f fd, G.Dm (L2.KOf KX) C "rim_from" "Bands.rim_from" W_bandhems_k19_whole_plain_forms.s_Bands_rim_from ["self", "gap"] f fd) ∧ True := by
      refine' ⟨_, PySem.W.mg_of KX GN ?a, ⟨?pg, ?hd, ?po, ?sa⟩, ?mk, ?kc, ?n0, ?n1, ?n2, ?m0, ?m1, ?m2, ?m3, ?m4, trivial⟩
      (case a => first | k_is | (unfold L2.KOf; k_is)); (case pg => first | k_is | (unfold L2.KOf; k_is)); (case hd => first | k_is | (unfold L2.KOf; k_is)); (case po => first | k_is | (unfold L2.KOf; k_is)); (case sa => first | k_is | (unfold L2.KOf; k_is)); (case mk => first | k_is | (unfold L2.KOf; k_is)); (case kc => first | k_is | (unfold L2.KOf; k_is)); (case n0 => (unfold L2.NoAttr L2.KOf; k_is)); (case n1 => (unfold L2.NoAttr L2.KOf; k_is)); (case n2 => (unfold L2.NoAttr L2.KOf; k_is))
      case m0 =>
        refine' G.di_mk (PySem.W.mg_of KX GN ?z) ?y ?x ?a ?i ?l ?c ?k (fun _ _ _ _ _ _ us hl => match us, hl with | [_, _], _ => rfl)
        (case z => first | k_is | (unfold L2.KOf; k_is)); (case y => first | k_is | (unfold L2.KOf; k_is)); (case x => first | k_is | (unfold L2.KOf; k_is)); (case a => first | k_is | (unfold L2.KOf; k_is)); (case i => first | k_is | (unfold L2.KOf; k_is)); (case l => first | k_is | (unfold L2.KOf; k_is)); (case c => first | k_is | (unfold L2.KOf; k_is)); (case k => first | k_is | (unfold L2.KOf; k_is))
      case m1 =>
        refine' G.dm_mk ?a ?i ?l ?c ?k (fun _ _ _ _ _ _ us hl => match us, hl with | [_, _, _], _ => rfl)
        (case a => first | k_is | (unfold L2.KOf; k_is)); (case i => first | k_is | (unfold L2.KOf; k_is)); (case l => first | k_is | (unfold L2.KOf; k_is)); (case c => first | k_is | (unfold L2.KOf; k_is)); (case k => first | k_is | (unfold L2.KOf; k_is))
      case m2 =>
        refine' G.dm_mk ?a ?i ?l ?c ?k (fun _ _ _ _ _ _ us hl => match us, hl with | [_, _, _], _ => rfl)
        (case a => first | k_is | (unfold L2.KOf; k_is)); (case i => first | k_is | (unfold L2.KOf; k_is)); (case l => first | k_is | (unfold L2.KOf; k_is)); (case c => first | k_is | (unfold L2.KOf; k_is)); (case k => first | k_is | (unfold L2.KOf; k_is))
      case m3 =>
        refine' G.dm_mk ?a ?i ?l ?c ?k (fun _ _ _ _ _ _ us hl => match us, hl with | [_, _, _], _ => rfl)
        (case a => first | k_is | (unfold L2.KOf; k_is)); (case i => first | k_is | (unfold L2.KOf; k_is)); (case l => first | k_is | (unfold L2.KOf; k_is)); (case c => first | k_is | (unfold L2.KOf; k_is)); (case k => first | k_is | (unfold L2.KOf; k_is))
      case m4 =>
        refine' G.dm_mk ?a ?i ?l ?c ?k (fun _ _ _ _ _ _ us hl => match us, hl with | [_, _], _ => rfl)
        (case a => first | k_is | (unfold L2.KOf; k_is)); (case i => first | k_is | (unfold L2.KOf; k_is)); (case l => first | k_is | (unfold L2.KOf; k_is)); (case c => first | k_is | (unfold L2.KOf; k_is)); (case k => first | k_is | (unfold L2.KOf; k_is))
    obtain ⟨f__law_take, fd__law_take, D__law_take⟩ : ∃ f fd, G.Dn _ mg "_law_take" W_bandhems_k19_whole_plain_forms.s__law_take ["well", "many"] f fd := by
      refine' G.dn_mk KX GN ?a ?l ?c ?k (fun _ _ _ _ _ _ us hl => match us, hl with | [_, _], _ => rfl)
      (case a => k_is); (case l => k_is); (case c => k_is); (case k => k_is)
    obtain ⟨f_is_whole, fd_is_whole, D_is_whole⟩ : ∃ f fd, G.Dn _ mg "is_whole" W_bandhems_k19_whole_plain_forms.s_is_whole ["value"] f fd := by
      refine' G.dn_mk KX GN ?a ?l ?c ?k (fun _ _ _ _ _ _ us hl => match us, hl with | [_], _ => rfl)
      (case a => k_is); (case l => k_is); (case c => k_is); (case k => k_is)
    obtain ⟨f_is_between, fd_is_between, D_is_between⟩ : ∃ f fd, G.Dn _ mg "is_between" W_bandhems_k19_whole_plain_forms.s_is_between ["value", "low", "high"] f fd := by
      refine' G.dn_mk KX GN ?a ?l ?c ?k (fun _ _ _ _ _ _ us hl => match us, hl with | [_, _, _], _ => rfl)
      (case a => k_is); (case l => k_is); (case c => k_is); (case k => k_is)
    obtain ⟨f_check_number, fd_check_number, D_check_number⟩ : ∃ f fd, G.Dn _ mg "check_number" W_bandhems_k19_whole_plain_forms.s_check_number ["value", "low", "high"] f fd := by
      refine' G.dn_mk KX GN ?a ?l ?c ?k (fun _ _ _ _ _ _ us hl => match us, hl with | [_, _, _], _ => rfl)
      (case a => k_is); (case l => k_is); (case c => k_is); (case k => k_is)
    obtain ⟨f_is_tuple_of, fd_is_tuple_of, D_is_tuple_of⟩ : ∃ f fd, G.Dn _ mg "is_tuple_of" W_bandhems_k19_whole_plain_forms.s_is_tuple_of ["value", "many"] f fd := by
      refine' G.dn_mk KX GN ?a ?l ?c ?k (fun _ _ _ _ _ _ us hl => match us, hl with | [_, _], _ => rfl)
      (case a => k_is); (case l => k_is); (case c => k_is); (case k => k_is)
    obtain ⟨f_are_wholes, fd_are_wholes, D_are_wholes⟩ : ∃ f fd, G.Dn _ mg "are_wholes" W_bandhems_k19_whole_plain_forms.s_are_wholes ["value", "many"] f fd := by
      refine' G.dn_mk KX GN ?a ?l ?c ?k (fun _ _ _ _ _ _ us hl => match us, hl with | [_, _], _ => rfl)
      (case a => k_is); (case l => k_is); (case c => k_is); (case k => k_is)
    obtain ⟨f_bands_of, fd_bands_of, D_bands_of⟩ : ∃ f fd, G.Dn _ mg "bands_of" W_bandhems_k19_whole_plain_forms.s_bands_of ["kind"] f fd := by
      refine' G.dn_mk KX GN ?a ?l ?c ?k (fun _ _ _ _ _ _ us hl => match us, hl with | [_], _ => rfl)
      (case a => k_is); (case l => k_is); (case c => k_is); (case k => k_is)
    obtain ⟨f_is_kinded, fd_is_kinded, D_is_kinded⟩ : ∃ f fd, G.Dn _ mg "is_kinded" W_bandhems_k19_whole_plain_forms.s_is_kinded ["value"] f fd := by
      refine' G.dn_mk KX GN ?a ?l ?c ?k (fun _ _ _ _ _ _ us hl => match us, hl with | [_], _ => rfl)
      (case a => k_is); (case l => k_is); (case c => k_is); (case k => k_is)
    obtain ⟨f_kinds_by, fd_kinds_by, D_kinds_by⟩ : ∃ f fd, G.Dn _ mg "kinds_by" W_bandhems_k19_whole_plain_forms.s_kinds_by ["number"] f fd := by
      refine' G.dn_mk KX GN ?a ?l ?c ?k (fun _ _ _ _ _ _ us hl => match us, hl with | [_], _ => rfl)
      (case a => k_is); (case l => k_is); (case c => k_is); (case k => k_is)
    obtain ⟨f_kinds_of, fd_kinds_of, D_kinds_of⟩ : ∃ f fd, G.Dn _ mg "kinds_of" W_bandhems_k19_whole_plain_forms.s_kinds_of ["number"] f fd := by
      refine' G.dn_mk KX GN ?a ?l ?c ?k (fun _ _ _ _ _ _ us hl => match us, hl with | [_], _ => rfl)
      (case a => k_is); (case l => k_is); (case c => k_is); (case k => k_is)
    obtain ⟨f__law_plain, fd__law_plain, D__law_plain⟩ : ∃ f fd, G.Dn _ mg "_law_plain" W_bandhems_k19_whole_plain_forms.s__law_plain ["triple"] f fd := by
      refine' G.dn_mk KX GN ?a ?l ?c ?k (fun _ _ _ _ _ _ us hl => match us, hl with | [_], _ => rfl)
      (case a => k_is); (case l => k_is); (case c => k_is); (case k => k_is)
    obtain ⟨f__law_same, fd__law_same, D__law_same⟩ : ∃ f fd, G.Dn _ mg "_law_same" W_bandhems_k19_whole_plain_forms.s__law_same ["told", "due"] f fd := by
      refine' G.dn_mk KX GN ?a ?l ?c ?k (fun _ _ _ _ _ _ us hl => match us, hl with | [_, _], _ => rfl)
      (case a => k_is); (case l => k_is); (case c => k_is); (case k => k_is)
    obtain ⟨f_plain_by, fd_plain_by, D_plain_by⟩ : ∃ f fd, G.Dn _ mg "plain_by" W_bandhems_k19_whole_plain_forms.s_plain_by ["kind"] f fd := by
      refine' G.dn_mk KX GN ?a ?l ?c ?k (fun _ _ _ _ _ _ us hl => match us, hl with | [_], _ => rfl)
      (case a => k_is); (case l => k_is); (case c => k_is); (case k => k_is)
    obtain ⟨f_plain_form, fd_plain_form, D_plain_form⟩ : ∃ f fd, G.Dn _ mg "plain_form" W_bandhems_k19_whole_plain_forms.s_plain_form ["triple"] f fd := by
      refine' G.dn_mk KX GN ?a ?l ?c ?k (fun _ _ _ _ _ _ us hl => match us, hl with | [_], _ => rfl)
      (case a => k_is); (case l => k_is); (case c => k_is); (case k => k_is)
    obtain ⟨f_is_text_of, fd_is_text_of, D_is_text_of⟩ : ∃ f fd, G.Dn _ mg "is_text_of" W_bandhems_k19_whole_plain_forms.s_is_text_of ["value", "signs"] f fd := by
      refine' G.dn_mk KX GN ?a ?l ?c ?k (fun _ _ _ _ _ _ us hl => match us, hl with | [_, _], _ => rfl)
      (case a => k_is); (case l => k_is); (case c => k_is); (case k => k_is)
    obtain ⟨f_is_worded, fd_is_worded, D_is_worded⟩ : ∃ f fd, G.Dn _ mg "is_worded" W_bandhems_k19_whole_plain_forms.s_is_worded ["value"] f fd := by
      refine' G.dn_mk KX GN ?a ?l ?c ?k (fun _ _ _ _ _ _ us hl => match us, hl with | [_], _ => rfl)
      (case a => k_is); (case l => k_is); (case c => k_is); (case k => k_is)
    obtain ⟨f_is_ascending, fd_is_ascending, D_is_ascending⟩ : ∃ f fd, G.Dn _ mg "is_ascending" W_bandhems_k19_whole_plain_forms.s_is_ascending ["row"] f fd := by
      refine' G.dn_mk KX GN ?a ?l ?c ?k (fun _ _ _ _ _ _ us hl => match us, hl with | [_], _ => rfl)
      (case a => k_is); (case l => k_is); (case c => k_is); (case k => k_is)
    obtain ⟨f_is_lot_of, fd_is_lot_of, D_is_lot_of⟩ : ∃ f fd, G.Dn _ mg "is_lot_of" W_bandhems_k19_whole_plain_forms.s_is_lot_of ["word", "value"] f fd := by
      refine' G.dn_mk KX GN ?a ?l ?c ?k (fun _ _ _ _ _ _ us hl => match us, hl with | [_, _], _ => rfl)
      (case a => k_is); (case l => k_is); (case c => k_is); (case k => k_is)
    obtain ⟨f_is_sewn, fd_is_sewn, D_is_sewn⟩ : ∃ f fd, G.Dn _ mg "is_sewn" W_bandhems_k19_whole_plain_forms.s_is_sewn ["value"] f fd := by
      refine' G.dn_mk KX GN ?a ?l ?c ?k (fun _ _ _ _ _ _ us hl => match us, hl with | [_], _ => rfl)
      (case a => k_is); (case l => k_is); (case c => k_is); (case k => k_is)
    obtain ⟨f_is_sewing, fd_is_sewing, D_is_sewing⟩ : ∃ f fd, G.Dn _ mg "is_sewing" W_bandhems_k19_whole_plain_forms.s_is_sewing ["value"] f fd := by
      refine' G.dn_mk KX GN ?a ?l ?c ?k (fun _ _ _ _ _ _ us hl => match us, hl with | [_], _ => rfl)
      (case a => k_is); (case l => k_is); (case c => k_is); (case k => k_is)
    obtain ⟨f_check_sewing, fd_check_sewing, D_check_sewing⟩ : ∃ f fd, G.Dn _ mg "check_sewing" W_bandhems_k19_whole_plain_forms.s_check_sewing ["sewing"] f fd := by
      refine' G.dn_mk KX GN ?a ?l ?c ?k (fun _ _ _ _ _ _ us hl => match us, hl with | [_], _ => rfl)
      (case a => k_is); (case l => k_is); (case c => k_is); (case k => k_is)
    obtain ⟨f_letters_by, fd_letters_by, D_letters_by⟩ : ∃ f fd, G.Dn _ mg "letters_by" W_bandhems_k19_whole_plain_forms.s_letters_by ["word"] f fd := by
      refine' G.dn_mk KX GN ?a ?l ?c ?k (fun _ _ _ _ _ _ us hl => match us, hl with | [_], _ => rfl)
      (case a => k_is); (case l => k_is); (case c => k_is); (case k => k_is)
    obtain ⟨f_ends_by, fd_ends_by, D_ends_by⟩ : ∃ f fd, G.Dn _ mg "ends_by" W_bandhems_k19_whole_plain_forms.s_ends_by ["word"] f fd := by
      refine' G.dn_mk KX GN ?a ?l ?c ?k (fun _ _ _ _ _ _ us hl => match us, hl with | [_], _ => rfl)
      (case a => k_is); (case l => k_is); (case c => k_is); (case k => k_is)
    obtain ⟨f_partners_by, fd_partners_by, D_partners_by⟩ : ∃ f fd, G.Dn _ mg "partners_by" W_bandhems_k19_whole_plain_forms.s_partners_by ["word"] f fd := by
      refine' G.dn_mk KX GN ?a ?l ?c ?k (fun _ _ _ _ _ _ us hl => match us, hl with | [_], _ => rfl)
      (case a => k_is); (case l => k_is); (case c => k_is); (case k => k_is)
    obtain ⟨f_rims_by, fd_rims_by, D_rims_by⟩ : ∃ f fd, G.Dn _ mg "rims_by" W_bandhems_k19_whole_plain_forms.s_rims_by ["sewing"] f fd := by
      refine' G.dn_mk KX GN ?a ?l ?c ?k (fun _ _ _ _ _ _ us hl => match us, hl with | [_], _ => rfl)
      (case a => k_is); (case l => k_is); (case c => k_is); (case k => k_is)
    obtain ⟨f_rim_count_by, fd_rim_count_by, D_rim_count_by⟩ : ∃ f fd, G.Dn _ mg "rim_count_by" W_bandhems_k19_whole_plain_forms.s_rim_count_by ["sewing"] f fd := by
      refine' G.dn_mk KX GN ?a ?l ?c ?k (fun _ _ _ _ _ _ us hl => match us, hl with | [_], _ => rfl)
      (case a => k_is); (case l => k_is); (case c => k_is); (case k => k_is)
    obtain ⟨f_sides_by, fd_sides_by, D_sides_by⟩ : ∃ f fd, G.Dn _ mg "sides_by" W_bandhems_k19_whole_plain_forms.s_sides_by ["sewing"] f fd := by
      refine' G.dn_mk KX GN ?a ?l ?c ?k (fun _ _ _ _ _ _ us hl => match us, hl with | [_], _ => rfl)
      (case a => k_is); (case l => k_is); (case c => k_is); (case k => k_is)
    obtain ⟨f_lead_of, fd_lead_of, D_lead_of⟩ : ∃ f fd, G.Dn _ mg "lead_of" W_bandhems_k19_whole_plain_forms.s_lead_of ["row"] f fd := by
      refine' G.dn_mk KX GN ?a ?l ?c ?k (fun _ _ _ _ _ _ us hl => match us, hl with | [_], _ => rfl)
      (case a => k_is); (case l => k_is); (case c => k_is); (case k => k_is)
    obtain ⟨f_taken_down, fd_taken_down, D_taken_down⟩ : ∃ f fd, G.Dn _ mg "taken_down" W_bandhems_k19_whole_plain_forms.s_taken_down ["row", "leads"] f fd := by
      refine' G.dn_mk KX GN ?a ?l ?c ?k (fun _ _ _ _ _ _ us hl => match us, hl with | [_, _], _ => rfl)
      (case a => k_is); (case l => k_is); (case c => k_is); (case k => k_is)
    obtain ⟨f_rank_of, fd_rank_of, D_rank_of⟩ : ∃ f fd, G.Dn _ mg "rank_of" W_bandhems_k19_whole_plain_forms.s_rank_of ["rows"] f fd := by
      refine' G.dn_mk KX GN ?a ?l ?c ?k (fun _ _ _ _ _ _ us hl => match us, hl with | [_], _ => rfl)
      (case a => k_is); (case l => k_is); (case c => k_is); (case k => k_is)
    obtain ⟨f_do_alternate, fd_do_alternate, D_do_alternate⟩ : ∃ f fd, G.Dn _ mg "do_alternate" W_bandhems_k19_whole_plain_forms.s_do_alternate ["one", "two"] f fd := by
      refine' G.dn_mk KX GN ?a ?l ?c ?k (fun _ _ _ _ _ _ us hl => match us, hl with | [_, _], _ => rfl)
      (case a => k_is); (case l => k_is); (case c => k_is); (case k => k_is)
    obtain ⟨f_near_by, fd_near_by, D_near_by⟩ : ∃ f fd, G.Dn _ mg "near_by" W_bandhems_k19_whole_plain_forms.s_near_by ["word"] f fd := by
      refine' G.dn_mk KX GN ?a ?l ?c ?k (fun _ _ _ _ _ _ us hl => match us, hl with | [_], _ => rfl)
      (case a => k_is); (case l => k_is); (case c => k_is); (case k => k_is)
    obtain ⟨f_row_of, fd_row_of, D_row_of⟩ : ∃ f fd, G.Dn _ mg "row_of" W_bandhems_k19_whole_plain_forms.s_row_of ["places"] f fd := by
      refine' G.dn_mk KX GN ?a ?l ?c ?k (fun _ _ _ _ _ _ us hl => match us, hl with | [_], _ => rfl)
      (case a => k_is); (case l => k_is); (case c => k_is); (case k => k_is)
    obtain ⟨f_rows_by, fd_rows_by, D_rows_by⟩ : ∃ f fd, G.Dn _ mg "rows_by" W_bandhems_k19_whole_plain_forms.s_rows_by ["sewing"] f fd := by
      refine' G.dn_mk KX GN ?a ?l ?c ?k (fun _ _ _ _ _ _ us hl => match us, hl with | [_], _ => rfl)
      (case a => k_is); (case l => k_is); (case c => k_is); (case k => k_is)
    obtain ⟨f_rank_by, fd_rank_by, D_rank_by⟩ : ∃ f fd, G.Dn _ mg "rank_by" W_bandhems_k19_whole_plain_forms.s_rank_by ["sewing"] f fd := by
      refine' G.dn_mk KX GN ?a ?l ?c ?k (fun _ _ _ _ _ _ us hl => match us, hl with | [_], _ => rfl)
      (case a => k_is); (case l => k_is); (case c => k_is); (case k => k_is)
    obtain ⟨f_kind_by, fd_kind_by, D_kind_by⟩ : ∃ f fd, G.Dn _ mg "kind_by" W_bandhems_k19_whole_plain_forms.s_kind_by ["sewing"] f fd := by
      refine' G.dn_mk KX GN ?a ?l ?c ?k (fun _ _ _ _ _ _ us hl => match us, hl with | [_], _ => rfl)
      (case a => k_is); (case l => k_is); (case c => k_is); (case k => k_is)
    obtain ⟨f_kind, fd_kind, D_kind⟩ : ∃ f fd, G.Dn _ mg "kind" W_bandhems_k19_whole_plain_forms.s_kind ["sewing"] f fd := by
      refine' G.dn_mk KX GN ?a ?l ?c ?k (fun _ _ _ _ _ _ us hl => match us, hl with | [_], _ => rfl)
      (case a => k_is); (case l => k_is); (case c => k_is); (case k => k_is)
    obtain ⟨f_rim_count, fd_rim_count, D_rim_count⟩ : ∃ f fd, G.Dn _ mg "rim_count" W_bandhems_k19_whole_plain_forms.s_rim_count ["sewing"] f fd := by
      refine' G.dn_mk KX GN ?a ?l ?c ?k (fun _ _ _ _ _ _ us hl => match us, hl with | [_], _ => rfl)
      (case a => k_is); (case l => k_is); (case c => k_is); (case k => k_is)
    obtain ⟨f_rank, fd_rank, D_rank⟩ : ∃ f fd, G.Dn _ mg "rank" W_bandhems_k19_whole_plain_forms.s_rank ["sewing"] f fd := by
      refine' G.dn_mk KX GN ?a ?l ?c ?k (fun _ _ _ _ _ _ us hl => match us, hl with | [_], _ => rfl)
      (case a => k_is); (case l => k_is); (case c => k_is); (case k => k_is)
    obtain ⟨f_check_word, fd_check_word, D_check_word⟩ : ∃ f fd, G.Dn _ mg "check_word" W_bandhems_k19_whole_plain_forms.s_check_word ["word"] f fd := by
      refine' G.dn_mk KX GN ?a ?l ?c ?k (fun _ _ _ _ _ _ us hl => match us, hl with | [_], _ => rfl)
      (case a => k_is); (case l => k_is); (case c => k_is); (case k => k_is)
    obtain ⟨f_letters, fd_letters, D_letters⟩ : ∃ f fd, G.Dn _ mg "letters" W_bandhems_k19_whole_plain_forms.s_letters ["word"] f fd := by
      refine' G.dn_mk KX GN ?a ?l ?c ?k (fun _ _ _ _ _ _ us hl => match us, hl with | [_], _ => rfl)
      (case a => k_is); (case l => k_is); (case c => k_is); (case k => k_is)
    obtain ⟨f__law_kind_right, fd__law_kind_right, D__law_kind_right⟩ : ∃ f fd, G.Dn _ mg "_law_kind_right" W_bandhems_k19_whole_plain_forms.s__law_kind_right ["triple"] f fd := by
      refine' G.dn_mk KX GN ?a ?l ?c ?k (fun _ _ _ _ _ _ us hl => match us, hl with | [_], _ => rfl)
      (case a => k_is); (case l => k_is); (case c => k_is); (case k => k_is)
    obtain ⟨f__law_round, fd__law_round, D__law_round⟩ : ∃ f fd, G.Dn _ mg "_law_round" W_bandhems_k19_whole_plain_forms.s__law_round ["well"] f fd := by
      refine' G.dn_mk KX GN ?a ?l ?c ?k (fun _ _ _ _ _ _ us hl => match us, hl with | [_], _ => rfl)
      (case a => k_is); (case l => k_is); (case c => k_is); (case k => k_is)
    obtain ⟨f__law_well, fd__law_well, D__law_well⟩ : ∃ f fd, G.Dn _ mg "_law_well" W_bandhems_k19_whole_plain_forms.s__law_well ["script", "turn"] f fd := by
      refine' G.dn_mk KX GN ?a ?l ?c ?k (fun _ _ _ _ _ _ us hl => match us, hl with | [_, _], _ => rfl)
      (case a => k_is); (case l => k_is); (case c => k_is); (case k => k_is)
    obtain ⟨f_law, fd_law, D_law⟩ : ∃ f fd, G.Dn _ mg "law" W_bandhems_k19_whole_plain_forms.s_law ["script"] f fd := by
      refine' G.dn_mk KX GN ?a ?l ?c ?k (fun _ _ _ _ _ _ us hl => match us, hl with | [_], _ => rfl)
      (case a => k_is); (case l => k_is); (case c => k_is); (case k => k_is)
    have z_abs : mg "abs" = none := by
      refine PySem.W.mg_none_of KX GN ?zb
      (case zb => k_is)
    have z_all : mg "all" = none := by
      refine PySem.W.mg_none_of KX GN ?zb
      (case zb => k_is)
    have z_bool : mg "bool" = none := by
      refine PySem.W.mg_none_of KX GN ?zb
      (case zb => k_is)
    have z_divmod : mg "divmod" = none := by
      refine PySem.W.mg_none_of KX GN ?zb
      (case zb => k_is)
    have z_enumerate : mg "enumerate" = none := by
      refine PySem.W.mg_none_of KX GN ?zb
      (case zb => k_is)
    have z_int : mg "int" = none := by
      refine PySem.W.mg_none_of KX GN ?zb
      (case zb => k_is)
    have z_isinstance : mg "isinstance" = none := by
      refine PySem.W.mg_none_of KX GN ?zb
      (case zb => k_is)
    have z_len : mg "len" = none := by
      refine PySem.W.mg_none_of KX GN ?zb
      (case zb => k_is)
    have z_list : mg "list" = none := by
      refine PySem.W.mg_none_of KX GN ?zb
      (case zb => k_is)
    have z_max : mg "max" = none := by
      refine PySem.W.mg_none_of KX GN ?zb
      (case zb => k_is)
    have z_min : mg "min" = none := by
      refine PySem.W.mg_none_of KX GN ?zb
      (case zb => k_is)
    have z_range : mg "range" = none := by
      refine PySem.W.mg_none_of KX GN ?zb
      (case zb => k_is)
    have z_set : mg "set" = none := by
      refine PySem.W.mg_none_of KX GN ?zb
      (case zb => k_is)
    have z_sorted : mg "sorted" = none := by
      refine PySem.W.mg_none_of KX GN ?zb
      (case zb => k_is)
    have z_str : mg "str" = none := by
      refine PySem.W.mg_none_of KX GN ?zb
      (case zb => k_is)
    have z_sum : mg "sum" = none := by
      refine PySem.W.mg_none_of KX GN ?zb
      (case zb => k_is)
    have z_tuple : mg "tuple" = none := by
      refine PySem.W.mg_none_of KX GN ?zb
      (case zb => k_is)
    have z_zip : mg "zip" = none := by
      refine PySem.W.mg_none_of KX GN ?zb
      (case zb => k_is)
    have k_MOST : G.KC (L2.KOf KX) ⟨fun n => [A_Bands].getD n 0, []⟩ mg "MOST" W_bandhems_k19_whole_plain_forms.c_MOST := by
      refine' ⟨_, .int 12, PySem.W.mg_of KX GN ?a, ?r, fun _ _ => .int _⟩
      (case a => k_is); (case r => exact ⟨_, rfl⟩)
    have k_ONE_SIDE : G.KC (L2.KOf KX) ⟨fun n => [A_Bands].getD n 0, []⟩ mg "ONE_SIDE" W_bandhems_k19_whole_plain_forms.c_ONE_SIDE := by
      refine' ⟨_, .int 1, PySem.W.mg_of KX GN ?a, ?r, fun _ _ => .int _⟩
      (case a => k_is); (case r => exact ⟨_, rfl⟩)
    have k_TWO_SIDES : G.KC (L2.KOf KX) ⟨fun n => [A_Bands].getD n 0, []⟩ mg "TWO_SIDES" W_bandhems_k19_whole_plain_forms.c_TWO_SIDES := by
      refine' ⟨_, .int 2, PySem.W.mg_of KX GN ?a, ?r, fun _ _ => .int _⟩
      (case a => k_is); (case r => exact ⟨_, rfl⟩)
    have k_LETTERS : G.KC (L2.KOf KX) ⟨fun n => [A_Bands].getD n 0, []⟩ mg "LETTERS" W_bandhems_k19_whole_plain_forms.c_LETTERS := by
      refine' ⟨_, .str (G.S [97, 98, 99, 100, 101, 102, 103, 104, 105, 106, 107, 108]), PySem.W.mg_of KX GN ?a, ?r, fun _ _ => .str _⟩
      (case a => k_is); (case r => exact ⟨_, rfl⟩)
    have k_FORWARD : G.KC (L2.KOf KX) ⟨fun n => [A_Bands].getD n 0, []⟩ mg "FORWARD" W_bandhems_k19_whole_plain_forms.c_FORWARD := by
      refine' ⟨_, .int 1, PySem.W.mg_of KX GN ?a, ?r, fun _ _ => .int _⟩
      (case a => k_is); (case r => exact ⟨_, rfl⟩)
    have e := D_law.m.symm.trans hmg
    cases e
    exact ⟨L2.KOf KX, fd_law, G.spG _ ⟨fun n => [A_Bands].getD n 0, []⟩ 1 W_bandhems_k19_whole_plain_forms.m_law, KX, fun s v => .of_eq (D_law.bb [v] rfl), fun _ _ ns hl _ hS => G.law_sp hS (fun p hp => absurd hp (by simp)) (W_bandhems_k19_whole_plain_forms.law_true ns hl) _, fun base _ _ => W_bandhems_k19_whole_plain_forms.w_all D__law_take D_is_whole D_is_between D_check_number D_is_tuple_of D_are_wholes D_bands_of D_is_kinded D_kinds_by D_kinds_of D__law_plain D__law_same D_plain_by D_plain_form D_is_text_of D_is_worded D_is_ascending D_is_lot_of D_is_sewn D_is_sewing D_check_sewing D_letters_by D_ends_by D_partners_by D_Bands___init__ D_Bands_behind D_Bands_end_met D_Bands_next_gap D_Bands_rim_from D_rims_by D_rim_count_by D_sides_by D_lead_of D_taken_down D_rank_of D_do_alternate D_near_by D_row_of D_rows_by D_rank_by D_kind_by D_kind D_rim_count D_rank D_check_word D_letters D__law_kind_right D__law_round D__law_well D_law z_abs z_all z_bool z_divmod z_enumerate z_int z_isinstance z_len z_list z_max z_min z_range z_set z_sorted z_str z_sum z_tuple z_zip k_MOST k_ONE_SIDE k_TWO_SIDES k_LETTERS k_FORWARD   C_Bands n_Bands_many n_Bands_partners n_Bands_twists⟩

