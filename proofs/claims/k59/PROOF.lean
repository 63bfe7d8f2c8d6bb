import PyProof.Rows.All
import Wide.All
import OpenK.AllK
import Wide.FinOn
import HandS.ForMost
import HandS.Lambda
import HandS.Wide
import PyProof.Rows.SeqMore
import HandS.WideBits
import HandS.TupAny
import HandS.TupLe
import HandS.IsInst
import HandS.Style
import HandS.SetFor
import HandS.SetTxtIn
import HandS.SetTxt0
import HandS.Strs
import HandS.More
import HandS.DictComp
import HandS.Replace
import PyProof.StrLawsIn
import PyProof.StrLawsLast
import HandS.Defaults
import KE.GoesMore
import KE.GoesEnum
import PyProof.ListStr
import PyProof.CollectStr
import PyProof.SumWalkG
import PyProof.WalksMore
import PyProof.StrLawsReplace
import PyProof.ToksMono
import PyProof.SliceStr2
import HandS.Nested
import HandS.Keys
import KE.SortKeyHeap
import KE.SortData
import KE.DataMinMax
import KE.KRevSl
import HandS.Star
import HandS.HeadWalk
import HandS.Small
import PySem.Challenge.RW_bandhems_k59_seats_gaps_and_stabs
set_option Elab.async false
set_option linter.all false
set_option maxRecDepth 100000
/-! Ly1: pure data D, owned trees T, what represents them in an abstract heap, what stays. -/
namespace G
open PySem L2

/-- the classes by number; the tables of code objects, each with the name that its code objects bear -/
structure Cm where
  c : Nat → Addr
  T : List (Addr × Str)
instance : CoeFun Cm (fun _ => Nat → Addr) := ⟨Cm.c⟩
/-- a thing that is no table -/
abbrev NT (o : HO) : Prop := ∀ ps, o ≠ .tbl ps
/-- a thing that may be stored over: no table, no code object -/
abbrev Pl (u : HO) : Prop := NT u ∧ ∀ φ, u ≠ .ext φ
theorem tabs_upd {T : List (Addr × Str)} {H : Hp} {p : Addr} {u o : HO} (t : LamX.Tabs T H) (e : H p = some u) (n : Pl u) : LamX.Tabs T (upd H p o) := fun q hq => by
  obtain ⟨ps, h1, h2, h3⟩ := t q hq
  refine ⟨ps, ?_, h2, fun pos cv hc => ?_⟩
  · rw [upd_ne (fun z => n.1 ps (Option.some.inj (e.symm.trans (by rw [← z]; exact h1))))]
    exact h1
  · obtain ⟨c, e1, e2⟩ := h3 pos cv hc
    refine ⟨c, e1, ?_⟩
    rw [upd_ne (fun z => n.2 _ (Option.some.inj (e.symm.trans (by rw [← z]; exact e2))))]
    exact e2
theorem pl_lst {xs : List V} : Pl (.lst xs) := ⟨fun _ z => (nomatch z), fun _ z => (nomatch z)⟩
theorem pl_dK {xs : List (Key × V)} : Pl (.dK xs) := ⟨fun _ z => (nomatch z), fun _ z => (nomatch z)⟩
theorem pl_dT {xs : List (List Key × V)} : Pl (.dT xs) := ⟨fun _ z => (nomatch z), fun _ z => (nomatch z)⟩
theorem pl_frz {o : Obj} {u : HO} : Pl (.frz o u) := ⟨fun _ z => (nomatch z), fun _ z => (nomatch z)⟩
inductive DK where
  | i (n : Int) | s (t : List Nat)
  deriving DecidableEq, Repr

inductive D where
  | non | bl (b : Bool) | int (i : Int) | str (s : List Nat)
  | tup (ds : List D) | lst (ds : List D) | dic (kvs : List (DK × D)) | dit (kvs : List (List DK × D))
  | obj (c : Nat) (fs : List (Str × D))

def S (s : List Nat) : Str := ⟨s.toArray⟩
theorem S_inj {a b : List Nat} (h : S a = S b) : a = b := by
  have : (S a).cps.toList = (S b).cps.toList := by rw [h]
  simpa [S] using this
theorem S_len (s : List Nat) : (S s).length = s.length := by simp [S, Str.length]
theorem S_cps (s : List Nat) : (S s).cps.toList = s := by simp [S]
theorem S_of (x : Str) : x = S x.cps.toList := by cases x; simp [S]

def DK.k : DK → Key
  | .i n => .inl n
  | .s t => .inr (S t)
theorem DK.k_inj {a b : DK} (h : a.k = b.k) : a = b := by
  cases a <;> cases b <;> simp [DK.k] at h
  · rw [h]
  · rw [S_inj h]
def DK.d : DK → D
  | .i n => .int n
  | .s t => .str t

abbrev AS := Addr → Prop

/-- a list that stands and is none of those that change -/
def KL (K : PySem.W.Frag) (a : Addr) (xs : List V) : Prop := ∃ (o : Obj) (its : Array Value) (n : Nat), K.lookup a = some o ∧ o.cls = .type "list" ∧ o.dict = none ∧ o.data = .seq its n ∧ its.size ≤ sizeLine ∧ Vals xs its.toList
def KT (K : PySem.W.Frag) (a : Addr) (xs : List V) : Prop := ∃ (o : Obj) (its : Array Value) (n : Nat), K.lookup a = some o ∧ o.cls = .type "tuple" ∧ o.data = .seq its n ∧ its.size ≤ sizeLine ∧ Vals xs its.toList
def SL (K : PySem.W.Frag) (A : AS) (H : Hp) (a : Addr) (xs : List V) : Prop := (Rd H a (.lst xs) ∧ ¬ A a) ∨ KL K a xs
def ST (K : PySem.W.Frag) (A : AS) (H : Hp) (a : Addr) (xs : List V) : Prop := (H a = some (.tup xs) ∧ ¬ A a) ∨ KT K a xs
theorem SL.sq {K : PySem.W.Frag} {A : AS} {H : Hp} {a : Addr} {xs : List V} (h : SL K A H a xs) : SqL K H a xs := h.imp (·.1) id
theorem ST.sq {K : PySem.W.Frag} {A : AS} {H : Hp} {a : Addr} {xs : List V} (h : ST K A H a xs) : SqT K H a xs := h.imp (fun z => .inl z.1) id

mutual
/-- the value v stands for d; nothing that it leads to is in A -/
inductive Rp (K : PySem.W.Frag) (cm : Cm) (A : AS) (H : Hp) : V → D → Prop
  | non : Rp K cm A H .non .non
  | bl (b : Bool) : Rp K cm A H (.bl b) (.bl b)
  | int (i : Int) : Rp K cm A H (.int i) (.int i)
  | str (s : List Nat) : Rp K cm A H (.str (S s)) (.str s)
  | tup {a : Addr} {xs : List V} {ds : List D} : ST K A H a xs → RpL K cm A H xs ds → Rp K cm A H (.ref a) (.tup ds)
  | lst {a : Addr} {xs : List V} {ds : List D} : SL K A H a xs → RpL K cm A H xs ds → Rp K cm A H (.ref a) (.lst ds)
  | dic {a : Addr} {ks : List (Key × V)} {kvs : List (DK × D)} : Rd H a (.dK ks) → ¬ A a → RpK K cm A H ks kvs → Rp K cm A H (.ref a) (.dic kvs)
  | dit {a : Addr} {ks : List (List Key × V)} {kvs : List (List DK × D)} : Rd H a (.dT ks) → ¬ A a → RpU K cm A H ks kvs → Rp K cm A H (.ref a) (.dit kvs)
  | obj {a dx : Addr} {c : Nat} {gs : List (Str × V)} {fs : List (Str × D)} : H a = some (.ins (cm c) dx gs) → ¬ A a → RpF K cm A H gs fs → Rp K cm A H (.ref a) (.obj c fs)
inductive RpL (K : PySem.W.Frag) (cm : Cm) (A : AS) (H : Hp) : List V → List D → Prop
  | nil : RpL K cm A H [] []
  | cons {v : V} {vs : List V} {d : D} {ds : List D} : Rp K cm A H v d → RpL K cm A H vs ds → RpL K cm A H (v :: vs) (d :: ds)
inductive RpK (K : PySem.W.Frag) (cm : Cm) (A : AS) (H : Hp) : List (Key × V) → List (DK × D) → Prop
  | nil : RpK K cm A H [] []
  | cons {k : DK} {v : V} {d : D} {ks : List (Key × V)} {kvs : List (DK × D)} : Rp K cm A H v d → RpK K cm A H ks kvs → RpK K cm A H ((k.k, v) :: ks) ((k, d) :: kvs)
inductive RpU (K : PySem.W.Frag) (cm : Cm) (A : AS) (H : Hp) : List (List Key × V) → List (List DK × D) → Prop
  | nil : RpU K cm A H [] []
  | cons {k : List DK} {v : V} {d : D} {ks : List (List Key × V)} {kvs : List (List DK × D)} : Rp K cm A H v d → RpU K cm A H ks kvs → RpU K cm A H ((k.map DK.k, v) :: ks) ((k, d) :: kvs)
inductive RpF (K : PySem.W.Frag) (cm : Cm) (A : AS) (H : Hp) : List (Str × V) → List (Str × D) → Prop
  | nil : RpF K cm A H [] []
  | cons {f : Str} {v : V} {d : D} {gs : List (Str × V)} {fs : List (Str × D)} : Rp K cm A H v d → RpF K cm A H gs fs → RpF K cm A H ((f, v) :: gs) ((f, d) :: fs)
end

/-- from the state (A, H) to (A', H'): what is not in A stays as it is; what is new in A' is new in the heap -/
structure Later (A : AS) (H : Hp) (A' : AS) (H' : Hp) : Prop where
  st : ∀ a o, H a = some o → NT o → ¬ A a → H' a = some o
  nw : ∀ a, A' a → A a ∨ H a = none
  dm : ∀ a, H a ≠ none → H' a ≠ none
theorem Later.refl (A : AS) (H : Hp) : Later A H A H := ⟨fun _ _ h _ _ => h, fun _ h => .inl h, fun _ h => h⟩
theorem Later.trans {A A1 A2 : AS} {H H1 H2 : Hp} (x : Later A H A1 H1) (y : Later A1 H1 A2 H2) : Later A H A2 H2 :=
  ⟨fun a o h t n => y.st a o (x.st a o h t n) t fun z => (x.nw a z).elim n fun e => (by rw [h] at e; cases e),
   fun a z => (y.nw a z).elim (x.nw a) fun e => (by
    cases q : H a with
    | none => exact .inr rfl
    | some o => exact absurd e (x.dm a (by rw [q]; exact fun z => nomatch z))),
   fun a h => y.dm a (x.dm a h)⟩
theorem Later.same {A : AS} {H H' : Hp} (h : Same H H') : Later A H A H' :=
  ⟨fun a o e _ _ => h a o e, fun _ z => .inl z, fun a e => by
    cases q : H a with
    | none => exact absurd q e
    | some o => rw [h a o q]; exact fun z => nomatch z⟩
theorem Later.less {A A1 A2 : AS} {H H1 : Hp} (x : Later A H A1 H1) (h : ∀ a, A2 a → A1 a) : Later A H A2 H1 := ⟨x.st, fun a z => x.nw a (h a z), x.dm⟩

section
variable {K : PySem.W.Frag} {cm : Cm} {A A' : AS} {H H' : Hp}
theorem Later.rd {a : Addr} {u : HO} (l : Later A H A' H') (h : Rd H a u) (n : ¬ A a) (t : NT u := by intro _ z; cases z) : Rd H' a u ∧ ¬ A' a := by
  refine ⟨?_, fun z => (l.nw a z).elim n fun e => ?_⟩
  · rcases h with h | ⟨o, h⟩
    · exact .inl (l.st a _ h t n)
    · exact .inr ⟨o, l.st a _ h (fun _ z => nomatch z) n⟩
  · rcases h with h | ⟨o, h⟩ <;> rw [h] at e <;> cases e
theorem SL.later {a : Addr} {xs : List V} (l : Later A H A' H') (h : SL K A H a xs) : SL K A' H' a xs := h.imp (fun h => l.rd h.1 h.2) id
theorem ST.later {a : Addr} {xs : List V} (l : Later A H A' H') (h : ST K A H a xs) : ST K A' H' a xs := h.imp (fun h => ⟨l.st _ _ h.1 (fun _ z => nomatch z) h.2, (l.rd (.inl h.1) h.2).2⟩) id
mutual
theorem Rp.later (l : Later A H A' H') : ∀ {v : V} {d : D}, Rp K cm A H v d → Rp K cm A' H' v d
  | _, _, .non => .non
  | _, _, .bl b => .bl b
  | _, _, .int i => .int i
  | _, _, .str s => .str s
  | _, _, .tup h r => .tup (h.later l) (RpL.later l r)
  | _, _, .lst h r => .lst (h.later l) (RpL.later l r)
  | _, _, .dic h n r => .dic (l.rd h n).1 (l.rd h n).2 (RpK.later l r)
  | _, _, .dit h n r => .dit (l.rd h n).1 (l.rd h n).2 (RpU.later l r)
  | _, _, .obj h n r => .obj (l.st _ _ h (fun _ z => nomatch z) n) (l.rd (.inl h) n).2 (RpF.later l r)
theorem RpL.later (l : Later A H A' H') : ∀ {v : List V} {d : List D}, RpL K cm A H v d → RpL K cm A' H' v d
  | _, _, .nil => .nil
  | _, _, .cons h r => .cons (Rp.later l h) (RpL.later l r)
theorem RpK.later (l : Later A H A' H') : ∀ {v : List (Key × V)} {d : List (DK × D)}, RpK K cm A H v d → RpK K cm A' H' v d
  | _, _, .nil => .nil
  | _, _, .cons h r => .cons (Rp.later l h) (RpK.later l r)
theorem RpU.later (l : Later A H A' H') : ∀ {v : List (List Key × V)} {d : List (List DK × D)}, RpU K cm A H v d → RpU K cm A' H' v d
  | _, _, .nil => .nil
  | _, _, .cons h r => .cons (Rp.later l h) (RpU.later l r)
theorem RpF.later (l : Later A H A' H') : ∀ {v : List (Str × V)} {d : List (Str × D)}, RpF K cm A H v d → RpF K cm A' H' v d
  | _, _, .nil => .nil
  | _, _, .cons h r => .cons (Rp.later l h) (RpF.later l r)
end
theorem RpL.length : ∀ {vs : List V} {ds : List D}, RpL K cm A H vs ds → vs.length = ds.length
  | _, _, .nil => rfl
  | _, _, .cons _ r => by simp [r.length]
theorem RpL.get : ∀ {vs : List V} {ds : List D} {i : Nat} {d : D}, RpL K cm A H vs ds → ds[i]? = some d → ∃ v, vs[i]? = some v ∧ Rp K cm A H v d
  | _, _, _, _, .nil, e => by simp at e
  | _, _, 0, _, .cons h _, e => by
    simp at e; subst e; exact ⟨_, rfl, h⟩
  | _, _, i + 1, _, .cons _ r, e => by
    obtain ⟨v, h1, h2⟩ := r.get (i := i) (by simpa using e)
    exact ⟨v, by simpa using h1, h2⟩
theorem RpL.app : ∀ {vs ws : List V} {ds es : List D}, RpL K cm A H vs ds → RpL K cm A H ws es → RpL K cm A H (vs ++ ws) (ds ++ es)
  | _, _, _, _, .nil, s => s
  | _, _, _, _, .cons h r, s => .cons h (r.app s)
theorem RpL.one {v : V} {d : D} (h : Rp K cm A H v d) : RpL K cm A H [v] [d] := .cons h .nil
theorem RpL.take : ∀ {vs : List V} {ds : List D} (n : Nat), RpL K cm A H vs ds → RpL K cm A H (vs.take n) (ds.take n)
  | _, _, 0, _ => by simp; exact .nil
  | _, _, _ + 1, .nil => .nil
  | _, _, n + 1, .cons h r => .cons h (r.take n)
theorem RpL.drop : ∀ {vs : List V} {ds : List D} (n : Nat), RpL K cm A H vs ds → RpL K cm A H (vs.drop n) (ds.drop n)
  | _, _, 0, r => r
  | _, _, _ + 1, .nil => .nil
  | _, _, n + 1, .cons _ r => r.drop n
theorem RpL.set {v : V} {d : D} (h : Rp K cm A H v d) : ∀ {vs : List V} {ds : List D} (i : Nat), RpL K cm A H vs ds → RpL K cm A H (vs.set i v) (ds.set i d)
  | _, _, _, .nil => .nil
  | _, _, 0, .cons _ r => .cons h r
  | _, _, i + 1, .cons q r => .cons q (RpL.set h i r)
theorem RpL.rev : ∀ {vs : List V} {ds : List D}, RpL K cm A H vs ds → RpL K cm A H vs.reverse ds.reverse
  | _, _, .nil => .nil
  | _, _, .cons h r => by
    rw [List.reverse_cons, List.reverse_cons]
    exact r.rev.app (.one h)
theorem RpL.erase : ∀ {vs : List V} {ds : List D} (i : Nat), RpL K cm A H vs ds → RpL K cm A H (vs.eraseIdx i) (ds.eraseIdx i)
  | _, _, _, .nil => .nil
  | _, _, 0, .cons _ r => r
  | _, _, i + 1, .cons q r => .cons q (r.erase i)
end

/-! ### owned trees -/
inductive T where
  | p (d : D) | ls (ds : List D) | di (kvs : List (DK × D)) | dt (kvs : List (List DK × D)) | ob (c : Nat) (fs : List (Str × T))

mutual
def T.d : T → D
  | .p d => d
  | .ls ds => .lst ds
  | .di kvs => .dic kvs
  | .dt kvs => .dit kvs
  | .ob c fs => .obj c (T.ds fs)
def T.ds : List (Str × T) → List (Str × D)
  | [] => []
  | (f, t) :: r => (f, t.d) :: T.ds r
end
mutual
/-- v stands for the tree t, whose own objects stand at the addresses given -/
def RT (K : PySem.W.Frag) (cm : Cm) (A : AS) (H : Hp) : V → T → List Addr → Prop
  | v, .p d, F => F = [] ∧ Rp K cm A H v d
  | v, .ls ds, F => ∃ a xs, v = .ref a ∧ F = [a] ∧ H a = some (.lst xs) ∧ RpL K cm A H xs ds
  | v, .di kvs, F => ∃ a ks, v = .ref a ∧ F = [a] ∧ H a = some (.dK ks) ∧ RpK K cm A H ks kvs
  | v, .dt kvs, F => ∃ a ks, v = .ref a ∧ F = [a] ∧ H a = some (.dT ks) ∧ RpU K cm A H ks kvs
  | v, .ob c fs, F => ∃ a dx gs F', v = .ref a ∧ F = a :: F' ∧ H a = some (.ins (cm c) dx gs) ∧ RTs K cm A H gs fs F'
def RTs (K : PySem.W.Frag) (cm : Cm) (A : AS) (H : Hp) : List (Str × V) → List (Str × T) → List Addr → Prop
  | gs, [], F => gs = [] ∧ F = []
  | gs, (f, t) :: r, F => ∃ v gs' F1 F2, gs = (f, v) :: gs' ∧ F = F1 ++ F2 ∧ RT K cm A H v t F1 ∧ RTs K cm A H gs' r F2
end
section
variable {K : PySem.W.Frag} {cm : Cm} {A A' : AS} {H H' : Hp}
mutual
theorem RT.dom : ∀ {v : V} {t : T} {F : List Addr}, RT K cm A H v t F → ∀ a ∈ F, H a ≠ none
  | v, .p d, F, h, a, m => by obtain ⟨rfl, _⟩ := h; cases m
  | v, .ls ds, F, h, a, m => by
    obtain ⟨b, xs, _, rfl, e, _⟩ := h
    obtain rfl : a = b := by simpa using m
    rw [e]; exact fun z => nomatch z
  | v, .di ds, F, h, a, m => by
    obtain ⟨b, xs, _, rfl, e, _⟩ := h
    obtain rfl : a = b := by simpa using m
    rw [e]; exact fun z => nomatch z
  | v, .dt ds, F, h, a, m => by
    obtain ⟨b, xs, _, rfl, e, _⟩ := h
    obtain rfl : a = b := by simpa using m
    rw [e]; exact fun z => nomatch z
  | v, .ob c fs, F, h, a, m => by
    obtain ⟨b, dx, gs, F', _, rfl, e, r⟩ := h
    rcases List.mem_cons.mp m with rfl | m
    · rw [e]; exact fun z => nomatch z
    · exact RTs.dom r a m
theorem RTs.dom : ∀ {gs : List (Str × V)} {fs : List (Str × T)} {F : List Addr}, RTs K cm A H gs fs F → ∀ a ∈ F, H a ≠ none
  | gs, [], F, h, a, m => by obtain ⟨_, rfl⟩ := h; cases m
  | gs, (f, t) :: r, F, h, a, m => by
    obtain ⟨v, gs', F1, F2, _, rfl, h1, h2⟩ := h
    rcases List.mem_append.mp m with m | m
    · exact RT.dom h1 a m
    · exact RTs.dom h2 a m
end
mutual
/-- a tree whose own objects stay -/
theorem RT.later (l : Later A H A' H') : ∀ {v : V} {t : T} {F : List Addr}, RT K cm A H v t F → (∀ a ∈ F, ∀ o, H a = some o → NT o → H' a = some o) → RT K cm A' H' v t F
  | v, .p d, F, h, _ => ⟨h.1, h.2.later l⟩
  | v, .ls ds, F, h, k => by
    obtain ⟨b, xs, e1, rfl, e, r⟩ := h
    exact ⟨b, xs, e1, rfl, k b (by simp) _ e (fun _ z => nomatch z), r.later l⟩
  | v, .di ds, F, h, k => by
    obtain ⟨b, xs, e1, rfl, e, r⟩ := h
    exact ⟨b, xs, e1, rfl, k b (by simp) _ e (fun _ z => nomatch z), r.later l⟩
  | v, .dt ds, F, h, k => by
    obtain ⟨b, xs, e1, rfl, e, r⟩ := h
    exact ⟨b, xs, e1, rfl, k b (by simp) _ e (fun _ z => nomatch z), r.later l⟩
  | v, .ob c fs, F, h, k => by
    obtain ⟨b, dx, gs, F', e1, rfl, e, r⟩ := h
    exact ⟨b, dx, gs, F', e1, rfl, k b (by simp) _ e (fun _ z => nomatch z), RTs.later l r fun a m => k a (by simp [m])⟩
theorem RTs.later (l : Later A H A' H') : ∀ {gs : List (Str × V)} {fs : List (Str × T)} {F : List Addr}, RTs K cm A H gs fs F → (∀ a ∈ F, ∀ o, H a = some o → NT o → H' a = some o) → RTs K cm A' H' gs fs F
  | gs, [], F, h, _ => h
  | gs, (f, t) :: r, F, h, k => by
    obtain ⟨v, gs', F1, F2, e1, rfl, h1, h2⟩ := h
    exact ⟨v, gs', F1, F2, e1, rfl, RT.later l h1 fun a m => k a (by simp [m]), RTs.later l h2 fun a m => k a (by simp [m])⟩
end
mutual
/-- a tree laid down: its own objects are no longer in A -/
theorem RT.frz (l : Later A H A' H) : ∀ {v : V} {t : T} {F : List Addr}, RT K cm A H v t F → (∀ a ∈ F, ¬ A' a) → Rp K cm A' H v t.d
  | v, .p d, F, h, _ => by rw [T.d]; exact h.2.later l
  | v, .ls ds, F, h, k => by
    obtain ⟨b, xs, rfl, rfl, e, r⟩ := h
    rw [T.d]; exact .lst (.inl ⟨.inl e, k b (by simp)⟩) (r.later l)
  | v, .di ds, F, h, k => by
    obtain ⟨b, xs, rfl, rfl, e, r⟩ := h
    rw [T.d]; exact .dic (.inl e) (k b (by simp)) (r.later l)
  | v, .dt ds, F, h, k => by
    obtain ⟨b, xs, rfl, rfl, e, r⟩ := h
    rw [T.d]; exact .dit (.inl e) (k b (by simp)) (r.later l)
  | v, .ob c fs, F, h, k => by
    obtain ⟨b, dx, gs, F', rfl, rfl, e, r⟩ := h
    rw [T.d]; exact .obj e (k b (by simp)) (RTs.frz l r fun a m => k a (by simp [m]))
theorem RTs.frz (l : Later A H A' H) : ∀ {gs : List (Str × V)} {fs : List (Str × T)} {F : List Addr}, RTs K cm A H gs fs F → (∀ a ∈ F, ¬ A' a) → RpF K cm A' H gs (T.ds fs)
  | gs, [], F, h, _ => by obtain ⟨rfl, _⟩ := h; rw [T.ds]; exact .nil
  | gs, (f, t) :: r, F, h, k => by
    obtain ⟨v, gs', F1, F2, rfl, rfl, h1, h2⟩ := h
    rw [T.ds]; exact .cons (RT.frz l h1 fun a m => k a (by simp [m])) (RTs.frz l h2 fun a m => k a (by simp [m]))
end
end
end G

/-! Ly2: slots, the frame's state RS, readings by functions, names, constants, operators. -/
namespace G
open PySem L2

inductive Sl where
  | no | v (t : T) | pin (t : T)
abbrev Rho := List Sl
structure Fc where
  H0 : Hp
  P : AS
  A0 : AS
  pv : Nat → Option V

section
variable (K : PySem.W.Frag) (cm : Cm)
def RSl (C : Fc) (A : AS) (H : Hp) (i : Nat) (o : Option V) : Sl → List Addr → Prop
  | .no, F => F = []
  | .v t, F => ∃ v, o = some v ∧ RT K cm A H v t F ∧ ∀ a ∈ F, C.H0 a = none
  | .pin t, F => ∃ v, o = some v ∧ C.pv i = some v ∧ RT K cm A H v t F ∧ ∀ a ∈ F, C.P a ∨ C.H0 a = none
/-- the frame's state: C fixed at the entry; A: what is owned; Y: owned things that no slot holds yet -/
structure RS (C : Fc) (A : AS) (Y : List Addr) (σ : St) (H : Hp) (ρ : Rho) : Prop where
  len : σ.length = ρ.length
  sl : ∃ F : Nat → List Addr, (∀ i, (F i).Nodup) ∧ (∀ i j a, a ∈ F i → a ∈ F j → i = j) ∧ (∀ i a, a ∈ F i → A a ∧ ¬ C.A0 a ∧ a ∉ Y) ∧ (∀ i, ρ[i]? = none → F i = []) ∧
    ∀ i s, ρ[i]? = some s → ∃ o, σ[i]? = some o ∧ RSl K cm C A H i o s (F i)
  out : ∀ a, C.A0 a → A a
  sub : ∀ a, A a → C.A0 a ∨ C.P a ∨ C.H0 a = none
  dom : ∀ a, A a → H a ≠ none
  fr : ∀ a o, C.H0 a = some o → NT o → ¬ C.P a → H a = some o
  fd : ∀ a, C.H0 a ≠ none → H a ≠ none
  tb : LamX.Tabs cm.T H
  ne : ∀ a, A a → ∀ φ, H a ≠ some (.ext φ)
end
/-- later, and what the callers own is as it was -/
structure Lt (C : Fc) (A : AS) (H : Hp) (A' : AS) (H' : Hp) : Prop where
  l : Later A H A' H'
  o : ∀ a o, C.A0 a → H a = some o → NT o → H' a = some o
theorem Lt.refl {C : Fc} (A : AS) (H : Hp) : Lt C A H A H := ⟨.refl A H, fun _ _ _ e _ => e⟩
theorem Lt.trans {C : Fc} {A A1 A2 : AS} {H H1 H2 : Hp} (x : Lt C A H A1 H1) (y : Lt C A1 H1 A2 H2) : Lt C A H A2 H2 := ⟨x.l.trans y.l, fun a o z e t => y.o a o z (x.o a o z e t) t⟩
theorem Lt.same {C : Fc} {A : AS} {H H' : Hp} (g : Same H H') : Lt C A H A H' := ⟨.same g, fun a o _ e _ => g a o e⟩
theorem Lt.less {C : Fc} {A A1 A2 : AS} {H H1 : Hp} (x : Lt C A H A1 H1) (h : ∀ a, A2 a → A1 a) : Lt C A H A2 H1 := ⟨x.l.less h, x.o⟩
section
variable {K : PySem.W.Frag} {cm : Cm} {A A' : AS} {H H' : Hp} {C : Fc} {σ : St} {ρ : Rho}
theorem RSl.owned {i : Nat} {o : Option V} {s : Sl} {F : List Addr} (h : RSl K cm C A H i o s F) : ∀ a ∈ F, H a ≠ none := by
  cases s with
  | no => cases h; intro a m; cases m
  | v t => obtain ⟨v, _, r, _⟩ := h; exact r.dom
  | pin t => obtain ⟨v, _, _, r, _⟩ := h; exact r.dom
theorem RSl.keep {i : Nat} {o : Option V} {s : Sl} {F : List Addr} (l : Later A H A' H') (h : RSl K cm C A H i o s F) (k : ∀ a ∈ F, ∀ o, H a = some o → NT o → H' a = some o) : RSl K cm C A' H' i o s F := by
  cases s with
  | no => exact h
  | v t => obtain ⟨v, e, r, f⟩ := h; exact ⟨v, e, r.later l k, f⟩
  | pin t => obtain ⟨v, e, e2, r, f⟩ := h; exact ⟨v, e, e2, r.later l k, f⟩
/-- the heap has grown -/
theorem RS.grow {Y : List Addr} (R : RS K cm C A Y σ H ρ) (g : Same H H') : RS K cm C A Y σ H' ρ := by
  obtain ⟨F, h1, h2, h3, h4, h5⟩ := R.sl
  refine ⟨R.len, ⟨F, h1, h2, h3, h4, fun i s e => ?_⟩, R.out, R.sub, fun a h => (Later.same (A := A) g).dm a (R.dom a h), fun a o h t n => g a o (R.fr a o h t n), fun a h => (Later.same (A := A) g).dm a (R.fd a h), R.tb.ext g, fun a z φ e => by
    cases q : H a with
    | none => exact R.dom a z q
    | some o => exact R.ne a z φ (by rw [q, ← g a o q]; exact e)⟩
  obtain ⟨o, e1, r⟩ := h5 i s e
  exact ⟨o, e1, r.keep (Later.same g) fun a _ o q _ => g a o q⟩
theorem RS.new {Y : List Addr} {p : Addr} (R : RS K cm C A Y σ H ρ) (h : H p = none) : ¬ A p := fun z => R.dom p z h
theorem RS.new0 {Y : List Addr} {p : Addr} (R : RS K cm C A Y σ H ρ) (h : H p = none) : C.H0 p = none := by
  cases q : C.H0 p with
  | none => rfl
  | some o => exact absurd h (R.fd p (by rw [q]; exact fun z => nomatch z))
theorem same_new {p : Addr} {o : HO} (h : H p = none) : Same H (upd H p o) := fun b x e => by
  rw [upd_ne (ne_of_none e h)]; exact e
end

/-! ### what an expression gives -/
inductive RV where
  | val (d : D) | ref (i : Nat)
abbrev Em := Rho → Option (RV × Rho)

def T.q : T → Option D
  | .p d => some d
  | .ls ds => some (.lst ds)
  | .di kvs => some (.dic kvs)
  | .dt kvs => some (.dit kvs)
  | .ob _ _ => none
def Sl.t : Sl → Option T
  | .no => none
  | .v t => some t
  | .pin t => some t
/-- what is read; what may be kept -/
def rd (ρ : Rho) : RV → Option D
  | .val d => some d
  | .ref i => (ρ[i]?.bind Sl.t).bind T.q
def T.u : T → Option D
  | .p d => some d
  | _ => none
def pu (ρ : Rho) : RV → Option D
  | .val d => some d
  | .ref i => (ρ[i]?.bind Sl.t).bind T.u

section
variable (K : PySem.W.Frag) (cm : Cm)
def RRV (A : AS) (H : Hp) (σ : St) (v : V) : RV → Prop
  | .val d => Rp K cm A H v d
  | .ref i => σ[i]? = some (some v)
/-- an operand: its top may be one's own -/
inductive Ro (A : AS) (H : Hp) : V → D → Prop
  | of {v : V} {d : D} : Rp K cm A H v d → Ro A H v d
  | lst {a : Addr} {xs : List V} {ds : List D} : H a = some (.lst xs) → RpL K cm A H xs ds → Ro A H (.ref a) (.lst ds)
  | dic {a : Addr} {ks : List (Key × V)} {kvs : List (DK × D)} : H a = some (.dK ks) → RpK K cm A H ks kvs → Ro A H (.ref a) (.dic kvs)
  | dit {a : Addr} {ks : List (List Key × V)} {kvs : List (List DK × D)} : H a = some (.dT ks) → RpU K cm A H ks kvs → Ro A H (.ref a) (.dit kvs)
/-- an expression's reading by a function -/
def tE (f : Em) : TE := fun σ H Q => ∃ C A ρ r ρ', RS K cm C A [] σ H ρ ∧ f ρ = some (r, ρ') ∧
  ∀ v H' A', Lt C A H A' H' → RS K cm C A' [] σ H' ρ' → RRV K cm A' H' σ v r → Q v H'
/-- a test's -/
def tT (f : Rho → Option (Bool × Rho)) : TT := fun σ H Q => ∃ C A ρ b ρ', RS K cm C A [] σ H ρ ∧ f ρ = some (b, ρ') ∧
  ∀ H' A', Lt C A H A' H' → RS K cm C A' [] σ H' ρ' → Q b H'
/-- a new (or moved) thing's -/
def tN (f : Rho → Option (T × Rho)) : TE := fun σ H Q => ∃ C A ρ t ρ', RS K cm C A [] σ H ρ ∧ f ρ = some (t, ρ') ∧
  ∀ v H' A' F, Lt C A H A' H' → RS K cm C A' F σ H' ρ' → RT K cm A' H' v t F → F.Nodup → (∀ a ∈ F, C.H0 a = none ∧ A' a ∧ ¬ C.A0 a) → Q v H'
def RRVs (A : AS) (H : Hp) (σ : St) (vs : List V) (rs : List RV) : Prop := Paired (fun v r => RRV K cm A H σ v r) vs rs
/-- an argument list's -/
def tAs (f : Rho → Option (List RV × Rho)) : TA := fun σ H Q => ∃ C A ρ rs ρ', RS K cm C A [] σ H ρ ∧ f ρ = some (rs, ρ') ∧
  ∀ vs H' A', Lt C A H A' H' → RS K cm C A' [] σ H' ρ' → RRVs K cm A' H' σ vs rs → Q vs H'
end
section
variable {K : PySem.W.Frag} {cm : Cm} {A A' : AS} {H H' : Hp} {C : Fc} {σ : St} {ρ ρ' : Rho} {v : V} {r : RV} {d : D}
theorem RRV.later (l : Lt C A H A' H') (h : RRV K cm A H σ v r) : RRV K cm A' H' σ v r := by
  cases r with
  | val d => exact Rp.later l.l h
  | ref i => exact h
theorem RRVs.later {vs : List V} {rs : List RV} (l : Lt C A H A' H') (h : RRVs K cm A H σ vs rs) : RRVs K cm A' H' σ vs rs := by
  induction h with
  | nil => exact .nil
  | cons h _ ih => exact .cons (RRV.later l h) ih
theorem Ro.later_same (g : Same H H') (h : Ro K cm A H v d) : Ro K cm A H' v d := by
  cases h with
  | of h => exact .of (h.later (.same g))
  | lst e r => exact .lst (g _ _ e) (r.later (.same g))
  | dic e r => exact .dic (g _ _ e) (r.later (.same g))
  | dit e r => exact .dit (g _ _ e) (r.later (.same g))
theorem slot_of (R : RS K cm C A [] σ H ρ) {i : Nat} {t : T} (e : ρ[i]?.bind Sl.t = some t) (hv : σ[i]? = some (some v)) : ∃ F, RT K cm A H v t F := by
  obtain ⟨F, h1, h2, h3, h4, h5⟩ := R.sl
  cases q : ρ[i]? with
  | none => rw [q] at e; cases e
  | some s =>
    rw [q] at e
    obtain ⟨o, e1, r⟩ := h5 i s q
    rw [hv] at e1; cases e1
    cases s with
    | no => cases e
    | v t' =>
      cases e
      obtain ⟨v', e2, r, _⟩ := r
      cases e2; exact ⟨_, r⟩
    | pin t' =>
      cases e
      obtain ⟨v', e2, _, r, _⟩ := r
      cases e2; exact ⟨_, r⟩
theorem rd_ok (R : RS K cm C A [] σ H ρ) (h : RRV K cm A H σ v r) (e : rd ρ r = some d) : Ro K cm A H v d := by
  cases r with
  | val d' => cases e; exact .of h
  | ref i =>
    change (ρ[i]?.bind Sl.t).bind T.q = some d at e
    cases q : ρ[i]?.bind Sl.t with
    | none => rw [q] at e; cases e
    | some t =>
      rw [q] at e
      obtain ⟨F, r⟩ := slot_of R q h
      cases t with
      | p d' => cases e; exact .of r.2
      | ls ds => cases e; obtain ⟨a, xs, rfl, _, e, r⟩ := r; exact .lst e r
      | di ds => cases e; obtain ⟨a, xs, rfl, _, e, r⟩ := r; exact .dic e r
      | dt ds => cases e; obtain ⟨a, xs, rfl, _, e, r⟩ := r; exact .dit e r
      | ob c fs => cases e
theorem pu_ok (R : RS K cm C A [] σ H ρ) (h : RRV K cm A H σ v r) (e : pu ρ r = some d) : Rp K cm A H v d := by
  cases r with
  | val d' => cases e; exact h
  | ref i =>
    change (ρ[i]?.bind Sl.t).bind T.u = some d at e
    cases q : ρ[i]?.bind Sl.t with
    | none => rw [q] at e; cases e
    | some t =>
      rw [q] at e
      obtain ⟨F, r⟩ := slot_of R q h
      cases t with
      | p d' => cases e; exact r.2
      | _ => cases e
/-! what an operand is -/
theorem Ro.non (h : Ro K cm A H v .non) : v = .non := by
  cases h with
  | of h => cases h; rfl
theorem Ro.bl {b : Bool} (h : Ro K cm A H v (.bl b)) : v = .bl b := by
  cases h with
  | of h => cases h; rfl
theorem Ro.int {i : Int} (h : Ro K cm A H v (.int i)) : v = .int i := by
  cases h with
  | of h => cases h; rfl
theorem Ro.str {s : List Nat} (h : Ro K cm A H v (.str s)) : v = .str (S s) := by
  cases h with
  | of h => cases h; rfl
theorem Ro.tup {ds : List D} (h : Ro K cm A H v (.tup ds)) : ∃ a xs, v = .ref a ∧ SqT K H a xs ∧ RpL K cm A H xs ds := by
  cases h with
  | of h => cases h with
    | tup h r => exact ⟨_, _, rfl, h.sq, r⟩
theorem Ro.ls {ds : List D} (h : Ro K cm A H v (.lst ds)) : ∃ a xs, v = .ref a ∧ SqL K H a xs ∧ RpL K cm A H xs ds := by
  cases h with
  | of h => cases h with
    | lst h r => exact ⟨_, _, rfl, h.sq, r⟩
  | lst h r => exact ⟨_, _, rfl, .inl (.inl h), r⟩
theorem Ro.di {kvs : List (DK × D)} (h : Ro K cm A H v (.dic kvs)) : ∃ a ks, v = .ref a ∧ Rd H a (.dK ks) ∧ RpK K cm A H ks kvs := by
  cases h with
  | of h => cases h with
    | dic h _ r => exact ⟨_, _, rfl, h, r⟩
  | dic h r => exact ⟨_, _, rfl, .inl h, r⟩
theorem Ro.du {kvs : List (List DK × D)} (h : Ro K cm A H v (.dit kvs)) : ∃ a ks, v = .ref a ∧ Rd H a (.dT ks) ∧ RpU K cm A H ks kvs := by
  cases h with
  | of h => cases h with
    | dit h _ r => exact ⟨_, _, rfl, h, r⟩
  | dit h r => exact ⟨_, _, rfl, .inl h, r⟩
end

section
variable {X : Cx} {cm : Cm} {pos : Pos} {e a b c : Expr}
theorem _root_.L2.PE.imp {e : Expr} {t t' : TE} (h : PE X e t) (i : ∀ σ H Q, t' σ H Q → t σ H Q) : PE X e t' := ⟨fun pins s σ H Q I q => h.run pins s σ H Q I (i σ H Q q)⟩
theorem _root_.L2.PT.imp {e : Expr} {t t' : TT} (h : PT X e t) (i : ∀ σ H Q, t' σ H Q → t σ H Q) : PT X e t' := ⟨fun pins s σ H Q I q => h.run pins s σ H Q I (i σ H Q q)⟩
theorem _root_.L2.PW.imp {e : Expr} {t t' : TT} (h : PW X e t) (i : ∀ σ H Q, t' σ H Q → t σ H Q) : PW X e t' := ⟨fun wh pins s σ H Q I q => h.run wh pins s σ H Q I (i σ H Q q)⟩
theorem _root_.L2.PA.imp {e : List Expr} {t t' : TA} (h : PA X e t) (i : ∀ σ H Q, t' σ H Q → t σ H Q) : PA X e t' := ⟨fun pos pins s σ H Q I q => h.run pos pins s σ H Q I (i σ H Q q)⟩
theorem _root_.L2.PS.imp {e : Stmt} {t t' : TS} (h : PS X e t) (i : ∀ D σ H, t' D σ H → t D σ H) : PS X e t' := ⟨fun pins s σ H D I q => h.run pins s σ H D I (i D σ H q)⟩
theorem _root_.L2.PSs.imp {e : List Stmt} {t t' : TS} (h : PSs X e t) (i : ∀ D σ H, t' D σ H → t D σ H) : PSs X e t' := ⟨fun pins s σ H D I q => h.run pins s σ H D I (i D σ H q)⟩
theorem _root_.L2.PE.or {e : Expr} {t t' : TE} (h : PE X e t) (h' : PE X e t') : PE X e (fun σ H Q => t σ H Q ∨ t' σ H Q) := ⟨fun pins s σ H Q I q => q.elim (h.run pins s σ H Q I) (h'.run pins s σ H Q I)⟩
/-- sizes of lists and tuples, known of the heap -/
def HL (K : PySem.W.Frag) (H : Hp) : Prop := ∀ a xs, SqL K H a xs ∨ SqT K H a xs → xs.length ≤ sizeLine
theorem _root_.L2.Inv.hl {pins : List (Addr × Obj)} {σ : St} {H : Hp} {s : Shared} (I : Inv X pins σ H s) : HL X.K H := fun a xs h => by
  rcases h with h | h
  · obtain ⟨_, _, _, z⟩ := I.list h; exact z
  · obtain ⟨_, _, _, z⟩ := I.tuple h; exact z
theorem _root_.L2.PE.hl {e : Expr} {t : TE} (h : PE X e t) : PE X e (fun σ H Q => HL X.K H → t σ H (fun v H' => HL X.K H' → Q v H')) :=
  ⟨fun pins s σ H Q I q => thn (h.run pins s σ H _ I (q (Inv.hl I))) fun u s' ⟨v, H', I', r, k⟩ => ⟨v, H', I', r, k (Inv.hl I')⟩⟩

variable (X cm)
abbrev FE (e : Expr) (f : Em) : Prop := PE X e (tE X.K cm f)
abbrev FB (e : Expr) (f : Rho → Option (Bool × Rho)) : Prop := PT X e (tT X.K cm f)
abbrev FW (e : Expr) (f : Rho → Option (Bool × Rho)) : Prop := PW X e (tT X.K cm f)
abbrev FN (e : Expr) (f : Rho → Option (T × Rho)) : Prop := PE X e (tN X.K cm f)
abbrev FA (es : List Expr) (f : Rho → Option (List RV × Rho)) : Prop := PA X es (tAs X.K cm f)
variable {X cm}

/-! ### names, constants -/
def eVar (i : Nat) : Em := fun ρ => match ρ[i]? with
  | some (.v (.p d)) => some (.val d, ρ)
  | some (.v _) => some (.ref i, ρ)
  | some (.pin _) => some (.ref i, ρ)
  | _ => none
theorem fe_var {i : Nat} (h : PE X e (tVar i)) : FE X cm e (eVar i) := h.imp fun σ H Q ⟨C, A, ρ, r, ρ', R, f, k⟩ => by
  obtain ⟨F, h1, h2, h3, h4, h5⟩ := R.sl
  unfold eVar at f
  split at f
  · rename_i d q
    cases f
    obtain ⟨o, e1, v, rfl, r, _⟩ := h5 i _ q
    exact ⟨v, e1, k v H A (.refl A H) R r.2⟩
  · rename_i t _ q
    cases f
    obtain ⟨o, e1, v, rfl, r, _⟩ := h5 i _ q
    exact ⟨v, e1, k v H A (.refl A H) R e1⟩
  · rename_i t q
    cases f
    obtain ⟨o, e1, v, rfl, _, r, _⟩ := h5 i _ q
    exact ⟨v, e1, k v H A (.refl A H) R e1⟩
  · cases f
def eC (d : D) : Em := fun ρ => some (.val d, ρ)
theorem fe_c {v : V} {d : D} (h : PE X e (tC v)) (r : ∀ A H, Rp X.K cm A H v d) : FE X cm e (eC d) := h.imp fun σ H Q ⟨C, A, ρ, r', ρ', R, f, k⟩ => by
  cases f
  exact k v H A (.refl A H) R (r A H)
theorem fe_int {i : Int} {j : Nat} : FE X cm (.Constant (.int i) j pos) (eC (.int i)) := fe_c pe_int fun _ _ => .int i
theorem fe_bl {i : Bool} {j : Nat} : FE X cm (.Constant (.bool i) j pos) (eC (.bl i)) := fe_c pe_bl fun _ _ => .bl i
theorem fe_non {j : Nat} : FE X cm (.Constant .none j pos) (eC .non) := fe_c pe_non fun _ _ => .non
theorem fe_str {x : Str} {s : List Nat} {j : Nat} (h : x = S s) : FE X cm (.Constant (.str x) j pos) (eC (.str s)) := fe_c pe_str fun _ _ => by rw [h]; exact .str s

/-! ### operators by values -/
/-- an operator's rule does what c says -/
def RO (K : PySem.W.Frag) (cm : Cm) (r : R2) (c : D → D → Option D) : Prop := ∀ (A : AS) (H : Hp) (x y : V) (dx dy dz : D) (Q : VK), (∀ a, A a → H a ≠ none) →
  Ro K cm A H x dx → Ro K cm A H y dy → c dx dy = some dz → (∀ z H', Same H H' → Rp K cm A H' z dz → Q z H') → r x y H Q
theorem RO.or {K : PySem.W.Frag} {r r' : R2} {c c' : D → D → Option D} (h : RO K cm r c) (h' : RO K cm r' c') : RO K cm (fun x y H Q => r x y H Q ∨ r' x y H Q) (fun x y => (c x y).or (c' x y)) := by
  intro A H x y dx dy dz Q hd hx hy e k
  change (c dx dy).or (c' dx dy) = some dz at e
  cases q : c dx dy with
  | some d => rw [q] at e; cases e; exact .inl (h A H x y dx dy _ Q hd hx hy q k)
  | none => rw [q] at e; exact .inr (h' A H x y dx dy _ Q hd hx hy e k)
def eOp (c : D → D → Option D) (f g : Em) : Em := fun ρ => (f ρ).bind fun p => (g p.2).bind fun q => (rd q.2 p.1).bind fun x => (rd q.2 q.1).bind fun y => (c x y).map fun z => (.val z, q.2)
theorem eOp_some {c : D → D → Option D} {f g : Em} {ρ ρ2 : Rho} {r : RV} (h : eOp c f g ρ = some (r, ρ2)) :
    ∃ p ρ1 q x y z, f ρ = some (p, ρ1) ∧ g ρ1 = some (q, ρ2) ∧ rd ρ2 p = some x ∧ rd ρ2 q = some y ∧ c x y = some z ∧ r = .val z := by
  unfold eOp at h
  simp only [Option.bind_eq_some_iff, Option.map_eq_some_iff] at h
  obtain ⟨⟨p, ρ1⟩, h1, ⟨q, ρ3⟩, h2, x, h3, y, h4, z, h5, h6⟩ := h
  cases h6
  exact ⟨p, ρ1, q, x, y, z, h1, h2, h3, h4, h5, rfl⟩
theorem tOp_of {K : PySem.W.Frag} {r : R2} {c : D → D → Option D} {f g : Em} {σ : St} {H : Hp} {Q : VK} (hr : RO K cm r c) (h : tE K cm (eOp c f g) σ H Q) : tOp r (tE K cm f) (tE K cm g) σ H Q := by
  obtain ⟨C, A, ρ, v, ρ2, R, e, k⟩ := h
  obtain ⟨p, ρ1, q, x, y, z, h1, h2, h3, h4, h5, rfl⟩ := eOp_some e
  refine ⟨C, A, ρ, p, ρ1, R, h1, fun v1 H1 A1 l1 R1 w1 => ⟨C, A1, ρ1, q, ρ2, R1, h2, fun v2 H2 A2 l2 R2 w2 => ?_⟩⟩
  refine hr A2 H2 v1 v2 x y z Q R2.dom (rd_ok R2 (w1.later l2) h3) (rd_ok R2 w2 h4) h5 fun z' H' g rz => ?_
  exact k z' H' A2 ((l1.trans l2).trans (.same g)) (R2.grow g) rz
theorem fe_op {op : Operator} {r : R2} {c : D → D → Option D} {f g : Em} (ho : OpR X (binaryOp op) r) (hr : RO X.K cm r c) (ha : FE X cm a f) (hb : FE X cm b g) : FE X cm (.BinOp a op b pos) (eOp c f g) :=
  (pe_op ho ha hb).imp fun _ _ _ h => tOp_of hr h
theorem fe_cmp {op : CmpOp} {r : R2} {c : D → D → Option D} {f g : Em} (ho : OpR X (compareOp op) r) (hr : RO X.K cm r c) (ha : FE X cm a f) (hb : FE X cm b g) (hm : behindInMarks op b = false) : FE X cm (.Compare a [op] [b] pos) (eOp c f g) :=
  (pe_cmpR ho ha hb hm).imp fun _ _ _ h => tOp_of hr h
/-- a test by a value that is True or False -/
def bOf (f : Em) : Rho → Option (Bool × Rho) := fun ρ => (f ρ).bind fun p => match p.1 with
  | .val (.bl b) => some (b, p.2)
  | _ => none
theorem bOf_some {f : Em} {ρ ρ' : Rho} {b : Bool} (h : bOf f ρ = some (b, ρ')) : f ρ = some (.val (.bl b), ρ') := by
  unfold bOf at h
  rw [Option.bind_eq_some_iff] at h
  obtain ⟨⟨r, ρ1⟩, h1, h2⟩ := h
  split at h2
  · rename_i q
    cases h2
    cases q
    exact h1
  · cases h2
theorem tB_of {K : PySem.W.Frag} {f : Em} {σ : St} {H : Hp} {Q : Bool → Hp → Prop} (h : tT K cm (bOf f) σ H Q) : tE K cm f σ H (fun x H1 => ∃ c, x = .bl c ∧ Q c H1) := by
  obtain ⟨C, A, ρ, b, ρ', R, e, k⟩ := h
  refine ⟨C, A, ρ, _, ρ', R, bOf_some e, fun v H' A' l R' w => ?_⟩
  cases w
  exact ⟨b, rfl, k H' A' l R'⟩
theorem fb_val {f : Em} (h : FE X cm e f) (he : ∀ whole, isTrue e X.env whole = (do let v ← whole; standAt e.pos; holding [v] (truthy v)) := by intro _; rfl) : FB X cm e (bOf f) :=
  (pt_val h he).imp fun _ _ _ q => tB_of q
theorem fb_cmp {op : CmpOp} {r : R2} {c : D → D → Option D} {f g : Em} (ho : OpR X (compareOp op) r) (hr : RO X.K cm r c) (ha : FE X cm a f) (hb : FE X cm b g) (hm : behindInMarks op b = false) : FB X cm (.Compare a [op] [b] pos) (bOf (eOp c f g)) :=
  (pt_cmpR ho ha hb hm).imp fun σ H Q q => tOp_of hr (tB_of q)
end
end G

/-! Ly3: operators: what each does with data. -/
namespace G
open PySem PySem.Spec L2
open PyProof.Rows (mul_int)

/-! ### data as the library's data, for == -/
mutual
def D.py : D → PyData
  | .non => .none
  | .bl b => .bool b
  | .int i => .int i
  | .str s => .str (S s)
  | .tup ds => .tuple (D.pys ds)
  | .lst ds => .list (D.pys ds)
  | _ => .dict []
def D.pys : List D → List PyData
  | [] => []
  | d :: ds => d.py :: D.pys ds
end
mutual
/-- no dict, no instance; signs below 1114112 -/
def D.flat : D → Bool
  | .non | .bl _ | .int _ => true
  | .str s => s.all (· < 1114112)
  | .tup ds | .lst ds => D.flats ds
  | _ => false
def D.flats : List D → Bool
  | [] => true
  | d :: ds => d.flat && D.flats ds
end
mutual
def D.dep : D → Nat
  | .tup ds | .lst ds => D.deps ds + 1
  | _ => 0
def D.deps : List D → Nat
  | [] => 0
  | d :: ds => max d.dep (D.deps ds)
end
mutual
/-- == -/
def D.eq : D → D → Bool
  | .non, .non => true
  | .bl a, .bl b => a == b
  | .bl a, .int j => (if a then 1 else 0) == j
  | .int i, .bl b => i == (if b then 1 else 0)
  | .int i, .int j => decide (i = j)
  | .str x, .str y => decide (x = y)
  | .lst xs, .lst ys => D.eqs xs ys
  | .tup xs, .tup ys => D.eqs xs ys
  | _, _ => false
def D.eqs : List D → List D → Bool
  | [], [] => true
  | x :: xs, y :: ys => D.eq x y && D.eqs xs ys
  | _, _ => false
end
mutual
theorem D.canLay : ∀ d : D, d.flat = true → d.py.canLay0 = true
  | .non, _ => by simp [D.py, PyData.canLay0]
  | .bl _, _ => by simp [D.py, PyData.canLay0]
  | .int _, _ => by simp [D.py, PyData.canLay0]
  | .str s, h => by
    simp only [D.flat] at h
    simp only [D.py, PyData.canLay0, PyData.strOk, S]
    simpa using h
  | .tup ds, h => by
    simp only [D.flat] at h
    simp only [D.py, PyData.canLay0]
    exact D.canLays ds h
  | .lst ds, h => by
    simp only [D.flat] at h
    simp only [D.py, PyData.canLay0]
    exact D.canLays ds h
  | .dic _, h => by simp [D.flat] at h
  | .dit _, h => by simp [D.flat] at h
  | .obj _ _, h => by simp [D.flat] at h
theorem D.canLays : ∀ ds : List D, D.flats ds = true → PyData.canLayAll0 (D.pys ds) = true
  | [], _ => by simp [D.pys, PyData.canLayAll0]
  | d :: ds, h => by
    simp only [D.flats, Bool.and_eq_true] at h
    simp only [D.pys, PyData.canLayAll0, Bool.and_eq_true]
    exact ⟨D.canLay d h.1, D.canLays ds h.2⟩
end
mutual
theorem D.dep_py : ∀ d : D, d.flat = true → d.py.depth = d.dep
  | .non, _ => by simp [D.py, PyData.depth, D.dep]
  | .bl _, _ => by simp [D.py, PyData.depth, D.dep]
  | .int _, _ => by simp [D.py, PyData.depth, D.dep]
  | .str s, _ => by simp [D.py, PyData.depth, D.dep]
  | .tup ds, h => by
    simp only [D.flat] at h
    simp only [D.py, PyData.depth, D.dep]
    rw [D.deps_py ds h]
  | .lst ds, h => by
    simp only [D.flat] at h
    simp only [D.py, PyData.depth, D.dep]
    rw [D.deps_py ds h]
  | .dic _, h => by simp [D.flat] at h
  | .dit _, h => by simp [D.flat] at h
  | .obj _ _, h => by simp [D.flat] at h
theorem D.deps_py : ∀ ds : List D, D.flats ds = true → PyData.depthAll (D.pys ds) = D.deps ds
  | [], _ => by simp [D.pys, PyData.depthAll, D.deps]
  | d :: ds, h => by
    simp only [D.flats, Bool.and_eq_true] at h
    simp only [D.pys, PyData.depthAll, D.deps]
    rw [D.dep_py d h.1, D.deps_py ds h.2]
end
mutual
theorem D.eq_py : ∀ d e : D, d.flat = true → e.flat = true → PyData.eqv d.py e.py = D.eq d e
  | .non, e, _, h => by cases e <;> simp_all [D.py, PyData.eqv, D.eq, D.flat]
  | .bl _, e, _, h => by cases e <;> simp_all [D.py, PyData.eqv, D.eq, D.flat]
  | .int i, e, _, h => by
    cases e <;> simp_all [D.py, PyData.eqv, D.eq, D.flat]
    rename_i j
    by_cases q : i = j <;> simp [q]
  | .str s, e, _, h => by
    cases e with
    | str t =>
      simp only [D.py, PyData.eqv, D.eq]
      by_cases q : s = t
      · subst q; simp
      · simp [q]; exact fun z => q (S_inj z)
    | _ => simp_all [D.py, PyData.eqv, D.eq, D.flat]
  | .tup ds, e, h, h' => by
    cases e <;> simp_all [D.py, PyData.eqv, D.eq, D.flat]
    exact D.eqs_py _ _ h h'
  | .lst ds, e, h, h' => by
    cases e <;> simp_all [D.py, PyData.eqv, D.eq, D.flat]
    exact D.eqs_py _ _ h h'
  | .dic _, _, h, _ => by simp [D.flat] at h
  | .dit _, _, h, _ => by simp [D.flat] at h
  | .obj _ _, _, h, _ => by simp [D.flat] at h
theorem D.eqs_py : ∀ ds es : List D, D.flats ds = true → D.flats es = true → PyData.eqvAll (D.pys ds) (D.pys es) = D.eqs ds es
  | [], [], _, _ => by simp [D.pys, PyData.eqvAll, D.eqs]
  | [], _ :: _, _, _ => by simp [D.pys, PyData.eqvAll, D.eqs]
  | _ :: _, [], _, _ => by simp [D.pys, PyData.eqvAll, D.eqs]
  | d :: ds, e :: es, h, h' => by
    simp only [D.flats, Bool.and_eq_true] at h h'
    simp only [D.pys, PyData.eqvAll, D.eqs]
    rw [D.eq_py d e h.1 h'.1, D.eqs_py ds es h.2 h'.2]
end
/-- fit to be compared -/
def D.ok (d : D) : Bool := d.flat && decide (d.dep ≤ 64)
theorem D.shaped {d : D} (h : d.ok = true) : SeqAt.shaped d.py = true := by
  unfold D.ok at h
  rw [Bool.and_eq_true] at h
  unfold SeqAt.shaped
  rw [D.canLay d h.1, D.dep_py d h.1]
  simpa using h.2

section
variable {K : PySem.W.Frag} {cm : Cm} {A : AS} {H : Hp}
mutual
theorem Rp.dp : ∀ {v : V} {d : D}, Rp K cm A H v d → d.flat = true → Dp K H v d.py
  | _, _, .non, _ => by rw [D.py]; exact .non
  | _, _, .bl b, _ => by rw [D.py]; exact .bl b
  | _, _, .int i, _ => by rw [D.py]; exact .int i
  | _, _, .str s, _ => by rw [D.py]; exact .str _
  | _, _, .tup h r, f => by
    rw [D.py]
    simp only [D.flat] at f
    exact .tup h.sq (RpL.dp r f)
  | _, _, .lst h r, f => by
    rw [D.py]
    simp only [D.flat] at f
    exact .lst h.sq (RpL.dp r f)
  | _, _, .dic _ _ _, f => by simp [D.flat] at f
  | _, _, .dit _ _ _, f => by simp [D.flat] at f
  | _, _, .obj _ _ _, f => by simp [D.flat] at f
theorem RpL.dp : ∀ {vs : List V} {ds : List D}, RpL K cm A H vs ds → D.flats ds = true → DpAll K H vs (D.pys ds)
  | _, _, .nil, _ => by rw [D.pys]; exact .nil
  | _, _, .cons h r, f => by
    rw [D.pys]
    simp only [D.flats, Bool.and_eq_true] at f
    exact .cons (Rp.dp h f.1) (RpL.dp r f.2)
end
theorem Ro.dp {v : V} {d : D} (h : Ro K cm A H v d) (f : d.flat = true) : Dp K H v d.py := by
  cases h with
  | of h => exact h.dp f
  | lst e r =>
    rw [D.py]
    simp only [D.flat] at f
    exact .lst (.inl (.inl e)) (r.dp f)
  | dic e r => simp [D.flat] at f
  | dit e r => simp [D.flat] at f
end

/-! ### arithmetic -/
def big : Nat := 1000000
theorem big_lt {n : Nat} (h : n ≤ big) : n < sizeLine := Nat.lt_of_le_of_lt h (by decide)
theorem big_le {n : Nat} (h : n ≤ big) : n ≤ sizeLine := Nat.le_of_lt (big_lt h)
def mulOk (i j : Int) : Bool := (decide (i.natAbs < 2 ^ 63) || decide (j.natAbs < 2 ^ 63)) || decide (i.natAbs.log2 + j.natAbs.log2 < 1000000)
def cAdd : D → D → Option D
  | .int i, .int j => some (.int (i + j))
  | .str s, .str t => if s.length + t.length ≤ big then some (.str (s ++ t)) else none
  | .lst xs, .lst ys => if xs.length + ys.length ≤ big then some (.lst (xs ++ ys)) else none
  | .tup xs, .tup ys => if xs.length + ys.length ≤ big then some (.tup (xs ++ ys)) else none
  | _, _ => none
def cSub : D → D → Option D
  | .int i, .int j => some (.int (i - j))
  | _, _ => none
def cMul : D → D → Option D
  | .int i, .int j => if mulOk i j then some (.int (i * j)) else none
  | _, _ => none
def cDiv : D → D → Option D
  | .int i, .int j => if 0 < j ∧ j.natAbs.log2 < 9000 then some (.int (i / j)) else none
  | _, _ => none
def cMod : D → D → Option D
  | .int i, .int j => if 0 < j then some (.int (i % j)) else none
  | _, _ => none
def cPow : D → D → Option D
  | .int i, .int j => if 0 ≤ j ∧ j.natAbs ≤ 1000000 ∧ i.natAbs < 2 ^ 64 then some (.int (i ^ j.toNat)) else none
  | _, _ => none
def cShl : D → D → Option D
  | .int i, .int j => if 0 ≤ j ∧ j.natAbs ≤ 1000000 ∧ i.natAbs < 2 ^ 64 then some (.int (i * 2 ^ j.toNat)) else none
  | _, _ => none
def cShr : D → D → Option D
  | .int i, .int j => if 0 ≤ j then some (.int (i / 2 ^ j.toNat)) else none
  | _, _ => none
def cI (f : Int → Int → Int) : D → D → Option D
  | .int i, .int j => some (.int (f i j))
  | _, _ => none
def cB (f : Int → Int → Bool) : D → D → Option D
  | .int i, .int j => some (.bl (f i j))
  | _, _ => none

section
variable {X : Cx} {K : PySem.W.Frag} {cm : Cm}
theorem ro_I0 {f : Int → Int → Int} : RO K cm (rI0 fun i j => .int (f i j)) (cI f) := by
  intro A H x y dx dy dz Q hd hx hy e k
  unfold cI at e
  split at e
  · cases e
    cases hx.int; cases hy.int
    exact ⟨_, _, rfl, rfl, k _ H (.refl H) (.int _)⟩
  · cases e
theorem ro_B0 {f : Int → Int → Bool} : RO K cm (rI0 fun i j => .bl (f i j)) (cB f) := by
  intro A H x y dx dy dz Q hd hx hy e k
  unfold cB at e
  split at e
  · cases e
    cases hx.int; cases hy.int
    exact ⟨_, _, rfl, rfl, k _ H (.refl H) (.bl _)⟩
  · cases e
theorem ro_I {Cd : Int → Int → Prop} {f : Int → Int → Int} {c : D → D → Option D} (h : ∀ x y z, c x y = some z → ∃ i j, x = .int i ∧ y = .int j ∧ Cd i j ∧ z = .int (f i j)) : RO K cm (rI Cd fun i j => .int (f i j)) c := by
  intro A H x y dx dy dz Q hd hx hy e k
  obtain ⟨i, j, rfl, rfl, hc, rfl⟩ := h _ _ _ e
  cases hx.int; cases hy.int
  exact ⟨_, _, rfl, rfl, hc, k _ H (.refl H) (.int _)⟩
theorem RO.by {r : R2} {c c' : D → D → Option D} (h : RO K cm r c) (e : ∀ x y z, c' x y = some z → c x y = some z) : RO K cm r c' :=
  fun A H x y dx dy dz Q hd hx hy q k => h A H x y dx dy dz Q hd hx hy (e _ _ _ q) k

/-- list + list, of any that stand -/
def rCatR (K : PySem.W.Frag) : R2 := fun x y H Q => ∃ l b xs zs, x = .ref l ∧ y = .ref b ∧ SqL K H l xs ∧ SqL K H b zs ∧ xs.length + zs.length ≤ sizeLine ∧ ∀ p, H p = none → Q (.ref p) (upd H p (.lst (xs ++ zs)))
theorem op_catR : OpR X (binaryOp .Add) (rCatR X.K) := by
  intro pins s σ H x y v u Q I rx ry h
  obtain ⟨l, b, xs, zs, rfl, rfl, hH, hB, hz, q⟩ := h
  cases rx
  cases ry
  obtain ⟨its, r, ⟨⟨cls, dd, data, sl⟩, n, ho, hc, hd0, hd⟩, z⟩ := I.list hH
  obtain ⟨its2, r2, ⟨⟨cls2, dd2, data2, sl2⟩, n2, ho2, hc2, hd02, hd2⟩, z2⟩ := I.list hB
  simp only at hc hd hd0 hc2 hd2 hd02
  subst hc hd hd0 hc2 hd2 hd02
  have hl := r.length
  have hl2 := r2.length
  have ea : its.toArray ++ its2.toArray = (its ++ its2).toArray := by simp
  refine PySem.concat_meets ⟨_, ho, rfl⟩ ⟨_, ho2, rfl⟩ PySem.noFill_list_add PySem.seq_list_add PySem.F.slot_list_add PySem.F.entry_list_add (PySem.F.args_list_add_2 _ _) (PyProof.Rows.list_addW l b its.toArray its2.toArray n n2 none none sl sl2 (by simp; omega)) ⟨ho, ho2, ?_⟩
  rw [ea]
  exact ⟨.ref _, _, I.lnew (t' := s.toks) (r.append r2) (by rw [List.length_append]; omega), rfl, q _ I.fresh⟩
theorem new_lst {A : AS} {H : Hp} {p : Addr} {xs : List V} {ds : List D} (hd : ∀ a, A a → H a ≠ none) (hp : H p = none) (r : RpL K cm A H xs ds) : Rp K cm A (upd H p (.lst xs)) (.ref p) (.lst ds) :=
  .lst (.inl ⟨.inl upd_same, fun z => hd p z hp⟩) (r.later (.same (same_new hp)))
theorem new_tup {A : AS} {H : Hp} {p : Addr} {xs : List V} {ds : List D} (hd : ∀ a, A a → H a ≠ none) (hp : H p = none) (r : RpL K cm A H xs ds) : Rp K cm A (upd H p (.tup xs)) (.ref p) (.tup ds) :=
  .tup (.inl ⟨upd_same, fun z => hd p z hp⟩) (r.later (.same (same_new hp)))
theorem ro_catR : RO K cm (rCatR K) (fun x y => match x, y with | .lst xs, .lst ys => if xs.length + ys.length ≤ big then some (.lst (xs ++ ys)) else none | _, _ => none) := by
  intro A H x y dx dy dz Q hd hx hy e k
  cases dx <;> (try cases e) <;> cases dy <;> (try cases e)
  rename_i ds es
  dsimp only at e
  split at e
  · rename_i hz
    cases e
    obtain ⟨a, xs, rfl, hl, r⟩ := hx.ls
    obtain ⟨b, ys, rfl, hl', r'⟩ := hy.ls
    refine ⟨a, b, xs, ys, rfl, rfl, hl, hl', big_le (by rw [r.length, r'.length]; exact hz), fun p hp => k _ _ (same_new hp) (new_lst hd hp (r.app r'))⟩
  · cases e
theorem ro_addS : RO K cm (fun x y H Q => ∃ i j, x = .str i ∧ y = .str j ∧ i.length + j.length ≤ sizeLine ∧ Q (.str (i ++ j)) H) (fun x y => match x, y with | .str xs, .str ys => if xs.length + ys.length ≤ big then some (.str (xs ++ ys)) else none | _, _ => none) := by
  intro A H x y dx dy dz Q hd hx hy e k
  cases dx <;> (try cases e) <;> cases dy <;> (try cases e)
  rename_i ds es
  dsimp only at e
  split at e
  · rename_i hz
    cases e
    cases hx.str; cases hy.str
    refine ⟨_, _, rfl, rfl, big_le (by rw [S_len, S_len]; exact hz), k _ H (.refl H) ?_⟩
    have : S ds ++ S es = S (ds ++ es) := by
      show Str.mk _ = Str.mk _
      simp [S]
    rw [this]
    exact .str _
  · cases e
theorem SqT_nil_ref {A : AS} {H : Hp} {v : V} {ds : List D} (h : Ro K cm A H v (.tup ds)) : Rp K cm A H v (.tup ds) := by
  cases h with
  | of h => exact h
theorem ro_catA : RO K cm (rCatA K) (fun x y => match x, y with | .tup xs, .tup ys => if xs.length + ys.length ≤ big then some (.tup (xs ++ ys)) else none | _, _ => none) := by
  intro A H x y dx dy dz Q hd hx hy e k
  cases dx <;> (try cases e) <;> cases dy <;> (try cases e)
  rename_i ds es
  dsimp only at e
  split at e
  · rename_i hz
    cases e
    obtain ⟨a, xs, rfl, hl, r⟩ := hx.tup
    obtain ⟨b, ys, rfl, hl', r'⟩ := hy.tup
    have l1 := r.length
    have l2 := r'.length
    refine ⟨a, b, xs, ys, rfl, rfl, hl, hl', big_le (by rw [l1, l2]; exact hz), fun z => ?_, fun z z' => ?_, fun z z' p hp => k _ _ (same_new hp) (new_tup hd hp (r.app r'))⟩
    · subst z
      have : ds = [] := List.eq_nil_of_length_eq_zero (by simpa using l1.symm)
      subst this
      exact k _ H (.refl H) (SqT_nil_ref hy)
    · subst z'
      have : es = [] := List.eq_nil_of_length_eq_zero (by simpa using l2.symm)
      subst this
      rw [List.append_nil] at k
      exact k _ H (.refl H) (SqT_nil_ref hx)
  · cases e
def rAddA (K : PySem.W.Frag) : R2 := fun x y H Q => (rI0 (fun i j => .int (i + j)) x y H Q) ∨ ((∃ i j, x = .str i ∧ y = .str j ∧ i.length + j.length ≤ sizeLine ∧ Q (.str (i ++ j)) H) ∨ (rCatR K x y H Q ∨ rCatA K x y H Q))
theorem op_addA : OpR X (binaryOp .Add) (rAddA X.K) := op_add.or (op_add_str.or (op_catR.or op_catA))
theorem ro_add : RO K cm (rAddA K) cAdd := (RO.or ro_I0 (RO.or ro_addS (RO.or ro_catR ro_catA))).by fun x y z h => by
  cases x <;> cases y <;> simp_all [cAdd, cI]
theorem ro_sub : RO K cm (rI0 fun i j => .int (i - j)) cSub := ro_I0.by fun x y z h => by cases x <;> cases y <;> simp_all [cSub, cI]
theorem mulOk_ok {i j : Int} (h : mulOk i j = true) : CMul i j ∨ CMulW i j := by
  unfold mulOk at h
  simp only [Bool.or_eq_true, decide_eq_true_eq] at h
  rcases h with (h | h) | h
  · exact .inl (.inl (by omega))
  · exact .inl (.inr (by omega))
  · exact .inr h
theorem op_mulA : OpR X (binaryOp .Mult) (rI (fun i j => CMul i j ∨ CMulW i j) fun i j => .int (i * j)) := opI fun _ _ _ _ _ _ _ hc q => mul_int q (hc.elim CMul.ok CMulW.ok)
theorem ro_mul : RO K cm (rI (fun i j => CMul i j ∨ CMulW i j) fun i j => .int (i * j)) cMul := ro_I fun x y z h => by
  unfold cMul at h
  split at h
  · split at h
    · cases h; exact ⟨_, _, rfl, rfl, mulOk_ok (by assumption), rfl⟩
    · cases h
  · cases h
theorem ro_div : RO K cm (rI CDivW fun i j => .int (i / j)) cDiv := ro_I fun x y z h => by
  unfold cDiv at h
  split at h
  · split at h
    · cases h; exact ⟨_, _, rfl, rfl, (by assumption), rfl⟩
    · cases h
  · cases h
theorem ro_mod : RO K cm (rI (fun _ j => 0 < j) fun i j => .int (i % j)) cMod := ro_I fun x y z h => by
  unfold cMod at h
  split at h
  · split at h
    · cases h; exact ⟨_, _, rfl, rfl, (by assumption), rfl⟩
    · cases h
  · cases h
theorem ro_pow : RO K cm (rI CPow fun i j => .int (i ^ j.toNat)) cPow := ro_I fun x y z h => by
  unfold cPow at h
  split at h
  · split at h
    · rename_i hz; cases h; exact ⟨_, _, rfl, rfl, ⟨hz.1, by have := hz.1; have := hz.2.1; omega, hz.2.2⟩, rfl⟩
    · cases h
  · cases h
theorem ro_shl : RO K cm (rI CPow fun i j => .int (i * 2 ^ j.toNat)) cShl := ro_I fun x y z h => by
  unfold cShl at h
  split at h
  · split at h
    · rename_i hz; cases h; exact ⟨_, _, rfl, rfl, ⟨hz.1, by have := hz.1; have := hz.2.1; omega, hz.2.2⟩, rfl⟩
    · cases h
  · cases h
theorem ro_shr : RO K cm (rI (fun _ j => 0 ≤ j) fun i j => .int (i / 2 ^ j.toNat)) cShr := ro_I fun x y z h => by
  unfold cShr at h
  split at h
  · split at h
    · cases h; exact ⟨_, _, rfl, rfl, (by assumption), rfl⟩
    · cases h
  · cases h
/-! ### comparisons -/
def sLt (a b : List Nat) : Bool := decide (a < b)
def cLt : D → D → Option D
  | .int i, .int j => some (.bl (decide (i < j)))
  | .str s, .str t => some (.bl (sLt s t))
  | _, _ => none
def cLe : D → D → Option D
  | .int i, .int j => some (.bl (decide (i ≤ j)))
  | .str s, .str t => some (.bl (!sLt t s))
  | _, _ => none
def cGt (x y : D) : Option D := cLt y x
def cGe (x y : D) : Option D := cLe y x
def cEq (x y : D) : Option D := if x.ok && y.ok then some (.bl (D.eq x y)) else none
def cNe (x y : D) : Option D := if x.ok && y.ok then some (.bl (!D.eq x y)) else none
theorem ro_S {f : Str → Str → Bool} {g : List Nat → List Nat → Bool} (h : ∀ s t, f (S s) (S t) = g s t) :
    RO K cm (fun x y H Q => ∃ i j, x = .str i ∧ y = .str j ∧ Q (.bl (f i j)) H) (fun x y => match x, y with | .str s, .str t => some (.bl (g s t)) | _, _ => none) := by
  intro A H x y dx dy dz Q hd hx hy e k
  cases dx <;> (try cases e) <;> cases dy <;> (try cases e)
  cases hx.str; cases hy.str
  refine ⟨_, _, rfl, rfl, ?_⟩
  rw [h]
  exact k _ H (.refl H) (.bl _)
theorem ro_lt : RO K cm (fun x y H Q => rI0 (fun i j => .bl (decide (i < j))) x y H Q ∨ (∃ i j, x = .str i ∧ y = .str j ∧ Q (.bl (decide (i.cps.toList < j.cps.toList))) H)) cLt :=
  (RO.or ro_B0 (ro_S (g := sLt) fun s t => by simp only [S_cps, sLt])).by fun x y z h => by cases x <;> cases y <;> simp_all [cLt, cB]
theorem ro_gt : RO K cm (fun x y H Q => rI0 (fun i j => .bl (decide (j < i))) x y H Q ∨ (∃ i j, x = .str i ∧ y = .str j ∧ Q (.bl (decide (j.cps.toList < i.cps.toList))) H)) cGt :=
  (RO.or ro_B0 (ro_S (g := fun s t => sLt t s) fun s t => by simp only [S_cps, sLt])).by fun x y z h => by cases x <;> cases y <;> simp_all [cLt, cB, cGt]
theorem ro_le : RO K cm (fun x y H Q => rI0 (fun i j => .bl (decide (i ≤ j))) x y H Q ∨ (∃ i j, x = .str i ∧ y = .str j ∧ Q (.bl (!decide (j.cps.toList < i.cps.toList))) H)) cLe :=
  (RO.or ro_B0 (ro_S (g := fun s t => !sLt t s) fun s t => by simp only [S_cps, sLt])).by fun x y z h => by cases x <;> cases y <;> simp_all [cLe, cB]
theorem ro_ge : RO K cm (fun x y H Q => rI0 (fun i j => .bl (decide (j ≤ i))) x y H Q ∨ (∃ i j, x = .str i ∧ y = .str j ∧ Q (.bl (!decide (i.cps.toList < j.cps.toList))) H)) cGe :=
  (RO.or ro_B0 (ro_S (g := fun s t => !sLt s t) fun s t => by simp only [S_cps, sLt])).by fun x y z h => by cases x <;> cases y <;> simp_all [cLe, cB, cGe]
theorem op_ltA : OpR X (compareOp .Lt) (fun x y H Q => rI0 (fun i j => .bl (decide (i < j))) x y H Q ∨ (∃ i j, x = .str i ∧ y = .str j ∧ Q (.bl (decide (i.cps.toList < j.cps.toList))) H)) := op_lt.or op_lt_str
theorem op_leA : OpR X (compareOp .LtE) (fun x y H Q => rI0 (fun i j => .bl (decide (i ≤ j))) x y H Q ∨ (∃ i j, x = .str i ∧ y = .str j ∧ Q (.bl (!decide (j.cps.toList < i.cps.toList))) H)) := op_le.or op_le_str
theorem op_gtA : OpR X (compareOp .Gt) (fun x y H Q => rI0 (fun i j => .bl (decide (j < i))) x y H Q ∨ (∃ i j, x = .str i ∧ y = .str j ∧ Q (.bl (decide (j.cps.toList < i.cps.toList))) H)) := op_gt.or op_gt_str
theorem op_geA : OpR X (compareOp .GtE) (fun x y H Q => rI0 (fun i j => .bl (decide (j ≤ i))) x y H Q ∨ (∃ i j, x = .str i ∧ y = .str j ∧ Q (.bl (!decide (i.cps.toList < j.cps.toList))) H)) := op_ge.or op_ge_str
theorem ro_eq : RO K cm (rEqD K) cEq := by
  intro A H x y dx dy dz Q hd hx hy e k
  unfold cEq at e
  split at e
  · rename_i h
    cases e
    rw [Bool.and_eq_true] at h
    have f1 : dx.flat = true := by have := h.1; unfold D.ok at this; rw [Bool.and_eq_true] at this; exact this.1
    have f2 : dy.flat = true := by have := h.2; unfold D.ok at this; rw [Bool.and_eq_true] at this; exact this.1
    refine ⟨_, _, hx.dp f1, hy.dp f2, D.shaped h.1, D.shaped h.2, ?_⟩
    rw [D.eq_py _ _ f1 f2]
    exact k _ H (.refl H) (.bl _)
  · cases e
theorem ro_ne : RO K cm (rNeD K) cNe := by
  intro A H x y dx dy dz Q hd hx hy e k
  unfold cNe at e
  split at e
  · rename_i h
    cases e
    rw [Bool.and_eq_true] at h
    have f1 : dx.flat = true := by have := h.1; unfold D.ok at this; rw [Bool.and_eq_true] at this; exact this.1
    have f2 : dy.flat = true := by have := h.2; unfold D.ok at this; rw [Bool.and_eq_true] at this; exact this.1
    refine ⟨_, _, hx.dp f1, hy.dp f2, D.shaped h.1, D.shaped h.2, ?_⟩
    rw [D.eq_py _ _ f1 f2]
    exact k _ H (.refl H) (.bl _)
  · cases e
/-! ### is -/
def isD : D → D → Option D
  | x, .non => some (.bl (match x with | .non => true | _ => false))
  | x, .bl b => some (.bl (match x with | .bl a => decide (a = b) | _ => false))
  | _, _ => none
def notD (x y : D) : Option D := (isD x y).bind fun d => match d with
  | .bl b => some (.bl !b)
  | _ => none
def rIs (neg : Bool) : R2 := fun x y H Q => (y = .non ∨ ∃ b, y = .bl b) ∧ Q (.bl (if neg then !decide (x = y) else decide (x = y))) H
theorem rel_beq {x y : V} {v u : Value} (hy : y = .non ∨ ∃ b, y = .bl b) (rx : RelV x v) (ry : RelV y u) : plainIs v u = true ∧ (v == u) = decide (x = y) := by
  rcases hy with rfl | ⟨b, rfl⟩
  · cases (show u = Value.none from ry)
    cases x <;> first
      | (cases (show v = _ from rx); exact ⟨rfl, by simp⟩)
      | (obtain ⟨t, rfl⟩ := rx; exact ⟨rfl, by simp⟩)
  · cases (show u = Value.bool b from ry)
    cases x <;> first
      | (cases (show v = _ from rx); exact ⟨rfl, by first | (rename_i a; cases a <;> cases b <;> rfl) | simp⟩)
      | (obtain ⟨t, rfl⟩ := rx; exact ⟨rfl, by simp⟩)
theorem op_isA : OpR X (compareOp .Is) (rIs false) := by
  intro pins s σ H x y v u Q I rx ry h
  obtain ⟨hy, q⟩ := h
  obtain ⟨h1, h2⟩ := rel_beq hy rx ry
  exact wpAny_is_plain h1 (by rw [h2]; exact ⟨.bl _, H, I, rfl, q⟩)
theorem op_isnotA : OpR X (compareOp .IsNot) (rIs true) := by
  intro pins s σ H x y v u Q I rx ry h
  obtain ⟨hy, q⟩ := h
  obtain ⟨h1, h2⟩ := rel_beq hy rx ry
  exact wpAny_isNot_plain h1 (by rw [h2]; exact ⟨.bl _, H, I, rfl, q⟩)
theorem isD_v {A : AS} {H : Hp} {x y : V} {dx dy dz : D} (hx : Ro K cm A H x dx) (hy : Ro K cm A H y dy) (e : isD dx dy = some dz) : (y = .non ∨ ∃ b, y = .bl b) ∧ dz = .bl (decide (x = y)) := by
  cases dy <;> (try cases e)
  · cases hy.non
    refine ⟨.inl rfl, ?_⟩
    cases hx with
    | of h => cases h <;> simp
    | lst => simp
    | dic => simp
    | dit => simp
  · rename_i b
    cases hy.bl
    refine ⟨.inr ⟨_, rfl⟩, ?_⟩
    cases hx with
    | of h => cases h <;> simp
    | lst => simp
    | dic => simp
    | dit => simp
theorem ro_is : RO K cm (rIs false) isD := by
  intro A H x y dx dy dz Q hd hx hy e k
  obtain ⟨h1, rfl⟩ := isD_v hx hy e
  exact ⟨h1, k _ H (.refl H) (.bl _)⟩
theorem ro_isnot : RO K cm (rIs true) notD := by
  intro A H x y dx dy dz Q hd hx hy e k
  unfold notD at e
  rw [Option.bind_eq_some_iff] at e
  obtain ⟨d, e1, e2⟩ := e
  obtain ⟨h1, rfl⟩ := isD_v hx hy e1
  cases e2
  exact ⟨h1, k _ H (.refl H) (.bl _)⟩
end
end G

/-! Ly4: tests, displays, items, slices; statements. -/
namespace G
open PySem PySem.Spec L2

section
variable {K : PySem.W.Frag} {cm : Cm} {A A' : AS} {H H' : Hp} {C : Fc} {σ : L2.St} {ρ ρ' : Rho}
/-- what was put aside is laid down -/
theorem RS.drop {F : List Addr} (hF : ∀ a ∈ F, ¬ C.A0 a) (R : RS K cm C A F σ H ρ) : RS K cm C (fun a => A a ∧ a ∉ F) [] σ H ρ := by
  obtain ⟨G', h1, h2, h3, h4, h5⟩ := R.sl
  have lt : Later A H (fun a => A a ∧ a ∉ F) H := (Later.refl A H).less fun a z => z.1
  refine ⟨R.len, ⟨G', h1, h2, fun i a m => ⟨⟨(h3 i a m).1, (h3 i a m).2.2⟩, (h3 i a m).2.1, fun z => nomatch z⟩, h4, fun i s e => ?_⟩, fun a z => ⟨R.out a z, fun q => hF a q z⟩, fun a z => R.sub a z.1, fun a z => R.dom a z.1, R.fr, R.fd, R.tb, fun a z => R.ne a z.1⟩
  obtain ⟨o, e1, r⟩ := h5 i s e
  exact ⟨o, e1, r.keep lt fun a _ o q _ => q⟩
/-- a slot is filled -/
theorem RS.set {F : List Addr} {i : Nat} {v : V} {t : T} (R : RS K cm C A F σ H ρ) (hi : ∃ s, ρ[i]? = some s ∧ ∀ t, s ≠ .pin t) (h : RT K cm A H v t F) (hn : F.Nodup) (hF : ∀ a ∈ F, C.H0 a = none ∧ A a ∧ ¬ C.A0 a) :
    RS K cm C A [] (σ.set i (some v)) H (ρ.set i (.v t)) := by
  obtain ⟨G', h1, h2, h3, h4, h5⟩ := R.sl
  obtain ⟨s0, hs0, _⟩ := hi
  have hil : i < ρ.length := (List.getElem?_eq_some_iff.mp hs0).1
  refine ⟨by rw [List.length_set, List.length_set]; exact R.len, ⟨fun j => if j = i then F else G' j, fun j => ?_, fun j k a m m' => ?_, fun j a m => ?_, fun j e => ?_, fun j s e => ?_⟩, R.out, R.sub, R.dom, R.fr, R.fd, R.tb, R.ne⟩
  · dsimp only; split
    · exact hn
    · exact h1 j
  · dsimp only at m m'
    by_cases hj : j = i <;> by_cases hk : k = i
    · rw [hj, hk]
    · rw [if_pos hj] at m; rw [if_neg hk] at m'
      exact absurd m (h3 k a m').2.2
    · rw [if_neg hj] at m; rw [if_pos hk] at m'
      exact absurd m' (h3 j a m).2.2
    · rw [if_neg hj] at m; rw [if_neg hk] at m'
      exact h2 j k a m m'
  · dsimp only at m
    by_cases hj : j = i
    · rw [if_pos hj] at m
      exact ⟨(hF a m).2.1, (hF a m).2.2, fun z => nomatch z⟩
    · rw [if_neg hj] at m
      exact ⟨(h3 j a m).1, (h3 j a m).2.1, fun z => nomatch z⟩
  · dsimp only
    by_cases hj : j = i
    · subst hj
      rw [List.getElem?_set_self hil] at e; cases e
    · rw [if_neg hj]
      rw [List.getElem?_set_ne (Ne.symm hj)] at e
      exact h4 j e
  · dsimp only
    by_cases hj : j = i
    · subst hj
      rw [List.getElem?_set_self hil] at e; cases e
      refine ⟨some v, ?_, ?_⟩
      · rw [List.getElem?_set_self (by rw [R.len]; exact hil)]
      · rw [if_pos rfl]
        exact ⟨v, rfl, h, fun a m => (hF a m).1⟩
    · rw [if_neg hj]
      rw [List.getElem?_set_ne (Ne.symm hj)] at e
      obtain ⟨o, e1, r⟩ := h5 j s e
      refine ⟨o, by rw [List.getElem?_set_ne (Ne.symm hj)]; exact e1, ?_⟩
      exact r
end
end G

/-! Ly5: tests, displays, items, slices; statements. -/
namespace G
open PySem PySem.Spec L2

/-! ### new and kept -/
def nVal (f : Em) : Rho → Option (T × Rho) := fun ρ => (f ρ).bind fun p => (pu p.2 p.1).map fun d => (.p d, p.2)
def eFrz (f : Rho → Option (T × Rho)) : Em := fun ρ => (f ρ).map fun p => (.val p.1.d, p.2)
section
variable {X : Cx} {cm : Cm} {pos : Pos} {e a b c : Expr} {es : List Expr}
theorem fn_val {f : Em} (h : FE X cm e f) : FN X cm e (nVal f) := h.imp fun σ H Q ⟨C, A, ρ, t, ρ', R, q, k⟩ => by
  unfold nVal at q
  simp only [Option.bind_eq_some_iff, Option.map_eq_some_iff] at q
  obtain ⟨⟨r, ρ1⟩, h1, d, h2, h3⟩ := q
  cases h3
  exact ⟨C, A, ρ, r, ρ1, R, h1, fun v H' A' l R' w => k v H' A' [] l R' ⟨rfl, pu_ok R' w h2⟩ .nil fun a m => nomatch m⟩
theorem fe_frz {f : Rho → Option (T × Rho)} (h : FN X cm e f) : FE X cm e (eFrz f) := h.imp fun σ H Q ⟨C, A, ρ, r, ρ', R, q, k⟩ => by
  unfold eFrz at q
  simp only [Option.map_eq_some_iff] at q
  obtain ⟨⟨t, ρ1⟩, h1, h3⟩ := q
  cases h3
  refine ⟨C, A, ρ, t, ρ1, R, h1, fun v H' A' F l R' rt hn hF => ?_⟩
  have l' : Lt C A' H' (fun a => A' a ∧ a ∉ F) H' := (Lt.refl A' H').less fun a z => z.1
  exact k v H' _ (l.trans l') (RS.drop (fun a m => (hF a m).2.2) R') (rt.frz l'.l fun a m z => z.2 m)

/-! ### truth -/
abbrev Bm := Rho → Option (Bool × Rho)
def bAnd (f g : Bm) : Bm := fun ρ => (f ρ).bind fun p => if p.1 then g p.2 else some (false, p.2)
def bOr (f g : Bm) : Bm := fun ρ => (f ρ).bind fun p => if p.1 then some (true, p.2) else g p.2
def bNot (f : Bm) : Bm := fun ρ => (f ρ).map fun p => (!p.1, p.2)
theorem fw_one {op : BoolOp} {f : Bm} (h : FB X cm a f) (ho : op = .And ∨ op = .Or) : FW X cm (.BoolOp op [a] pos) f := by
  rcases ho with rfl | rfl
  · exact pw_and1 h
  · exact pw_or1 h
theorem fw_and {f g : Bm} {rest : List Expr} (ha : FB X cm a f) (hb : FW X cm (.BoolOp .And (b :: rest) pos) g) : FW X cm (.BoolOp .And (a :: b :: rest) pos) (bAnd f g) :=
  (pw_and ha hb).imp fun σ H Q ⟨C, A, ρ, t, ρ', R, q, k⟩ => by
    unfold bAnd at q
    rw [Option.bind_eq_some_iff] at q
    obtain ⟨⟨x, ρ1⟩, h1, h2⟩ := q
    refine ⟨C, A, ρ, x, ρ1, R, h1, fun H1 A1 l1 R1 => ?_⟩
    cases x with
    | true => exact iteT ⟨C, A1, ρ1, t, ρ', R1, h2, fun H2 A2 l2 R2 => k H2 A2 (l1.trans l2) R2⟩
    | false => cases h2; exact iteF (k H1 A1 l1 R1)
theorem fw_or {f g : Bm} {rest : List Expr} (ha : FB X cm a f) (hb : FW X cm (.BoolOp .Or (b :: rest) pos) g) : FW X cm (.BoolOp .Or (a :: b :: rest) pos) (bOr f g) :=
  (pw_or ha hb).imp fun σ H Q ⟨C, A, ρ, t, ρ', R, q, k⟩ => by
    unfold bOr at q
    rw [Option.bind_eq_some_iff] at q
    obtain ⟨⟨x, ρ1⟩, h1, h2⟩ := q
    refine ⟨C, A, ρ, x, ρ1, R, h1, fun H1 A1 l1 R1 => ?_⟩
    cases x with
    | false => exact iteF ⟨C, A1, ρ1, t, ρ', R1, h2, fun H2 A2 l2 R2 => k H2 A2 (l1.trans l2) R2⟩
    | true => cases h2; exact iteT (k H1 A1 l1 R1)
theorem fb_w {f : Bm} (h : FW X cm e f) : FB X cm e f := h.pt
theorem fb_not {f : Bm} (h : FB X cm a f) : FB X cm (.UnaryOp .Not a pos) (bNot f) :=
  (pt_not h).imp fun σ H Q ⟨C, A, ρ, t, ρ', R, q, k⟩ => by
    unfold bNot at q
    rw [Option.map_eq_some_iff] at q
    obtain ⟨⟨x, ρ1⟩, h1, h2⟩ := q
    cases h2
    exact ⟨C, A, ρ, x, ρ1, R, h1, k⟩
/-- and, or, not as values -/
def eB (f : Bm) : Em := fun ρ => (f ρ).map fun p => (.val (.bl p.1), p.2)
def eOne (f : Em) : Em := f
def eAnd (f g : Em) : Em := fun ρ => (f ρ).bind fun p => match p.1 with
  | .val (.bl true) => g p.2
  | .val (.bl false) => some (.val (.bl false), p.2)
  | _ => none
def eOr (f g : Em) : Em := fun ρ => (f ρ).bind fun p => match p.1 with
  | .val (.bl false) => g p.2
  | .val (.bl true) => some (.val (.bl true), p.2)
  | _ => none
def eNot (f : Em) : Em := fun ρ => (f ρ).bind fun p => match p.1 with
  | .val (.bl b) => some (.val (.bl !b), p.2)
  | _ => none
theorem fe_one {op : BoolOp} {f : Em} (h : FE X cm a f) : FE X cm (.BoolOp op [a] pos) f := pe_one h
theorem fe_and {f g : Em} {rest : List Expr} (ha : FE X cm a f) (hb : FE X cm (.BoolOp .And (b :: rest) pos) g) : FE X cm (.BoolOp .And (a :: b :: rest) pos) (eAnd f g) :=
  (pe_and ha hb).imp fun σ H Q ⟨C, A, ρ, t, ρ', R, q, k⟩ => by
    unfold eAnd at q
    rw [Option.bind_eq_some_iff] at q
    obtain ⟨⟨x, ρ1⟩, h1, h2⟩ := q
    refine ⟨C, A, ρ, x, ρ1, R, h1, fun v1 H1 A1 l1 R1 w1 => ?_⟩
    dsimp only at h2
    split at h2
    · cases w1
      exact ⟨_, rfl, iteT ⟨C, A1, ρ1, t, ρ', R1, h2, fun v H2 A2 l2 R2 => k v H2 A2 (l1.trans l2) R2⟩⟩
    · cases w1; cases h2
      exact ⟨_, rfl, iteF (k _ H1 A1 l1 R1 (.bl _))⟩
    · cases h2
theorem fe_or {f g : Em} {rest : List Expr} (ha : FE X cm a f) (hb : FE X cm (.BoolOp .Or (b :: rest) pos) g) : FE X cm (.BoolOp .Or (a :: b :: rest) pos) (eOr f g) :=
  (pe_or ha hb).imp fun σ H Q ⟨C, A, ρ, t, ρ', R, q, k⟩ => by
    unfold eOr at q
    rw [Option.bind_eq_some_iff] at q
    obtain ⟨⟨x, ρ1⟩, h1, h2⟩ := q
    refine ⟨C, A, ρ, x, ρ1, R, h1, fun v1 H1 A1 l1 R1 w1 => ?_⟩
    dsimp only at h2
    split at h2
    · cases w1
      exact ⟨_, rfl, iteF ⟨C, A1, ρ1, t, ρ', R1, h2, fun v H2 A2 l2 R2 => k v H2 A2 (l1.trans l2) R2⟩⟩
    · cases w1; cases h2
      exact ⟨_, rfl, iteT (k _ H1 A1 l1 R1 (.bl _))⟩
    · cases h2
theorem fe_not {f : Em} (h : FE X cm a f) : FE X cm (.UnaryOp .Not a pos) (eNot f) :=
  (pe_not h).imp fun σ H Q ⟨C, A, ρ, t, ρ', R, q, k⟩ => by
    unfold eNot at q
    rw [Option.bind_eq_some_iff] at q
    obtain ⟨⟨x, ρ1⟩, h1, h2⟩ := q
    refine ⟨C, A, ρ, x, ρ1, R, h1, fun v1 H1 A1 l1 R1 w1 => ?_⟩
    dsimp only at h2
    split at h2
    · cases w1; cases h2
      exact ⟨_, rfl, k _ H1 A1 l1 R1 (.bl _)⟩
    · cases h2
def eIf (f : Bm) (g h : Em) : Em := fun ρ => (f ρ).bind fun p => if p.1 then g p.2 else h p.2
theorem fe_if {f : Bm} {g h : Em} (hc : FB X cm c f) (ha : FE X cm a g) (hb : FE X cm b h) : FE X cm (.IfExp c a b pos) (eIf f g h) :=
  (pe_ifExp hc ha hb).imp fun σ H Q ⟨C, A, ρ, t, ρ', R, q, k⟩ => by
    unfold eIf at q
    rw [Option.bind_eq_some_iff] at q
    obtain ⟨⟨x, ρ1⟩, h1, h2⟩ := q
    refine ⟨C, A, ρ, x, ρ1, R, h1, fun H1 A1 l1 R1 => ?_⟩
    cases x with
    | true => exact iteT ⟨C, A1, ρ1, t, ρ', R1, h2, fun v H2 A2 l2 R2 => k v H2 A2 (l1.trans l2) R2⟩
    | false => exact iteF ⟨C, A1, ρ1, t, ρ', R1, h2, fun v H2 A2 l2 R2 => k v H2 A2 (l1.trans l2) R2⟩
def nIf (f : Bm) (g h : Rho → Option (T × Rho)) : Rho → Option (T × Rho) := fun ρ => (f ρ).bind fun p => if p.1 then g p.2 else h p.2
theorem fn_if {f : Bm} {g h : Rho → Option (T × Rho)} (hc : FB X cm c f) (ha : FN X cm a g) (hb : FN X cm b h) : FN X cm (.IfExp c a b pos) (nIf f g h) :=
  (pe_ifExp hc ha hb).imp fun σ H Q ⟨C, A, ρ, t, ρ', R, q, k⟩ => by
    unfold nIf at q
    rw [Option.bind_eq_some_iff] at q
    obtain ⟨⟨x, ρ1⟩, h1, h2⟩ := q
    refine ⟨C, A, ρ, x, ρ1, R, h1, fun H1 A1 l1 R1 => ?_⟩
    cases x with
    | true => exact iteT ⟨C, A1, ρ1, t, ρ', R1, h2, fun v H2 A2 F l2 R2 => k v H2 A2 F (l1.trans l2) R2⟩
    | false => exact iteF ⟨C, A1, ρ1, t, ρ', R1, h2, fun v H2 A2 F l2 R2 => k v H2 A2 F (l1.trans l2) R2⟩
/-- a < b < c -/
def eChain (c1 c2 : D → D → Option D) (f g h : Em) : Em := fun ρ => (f ρ).bind fun p => (g p.2).bind fun q => (rd q.2 p.1).bind fun x => (rd q.2 q.1).bind fun y => (c1 x y).bind fun z => match z with
  | .bl true => (h q.2).bind fun r => (rd r.2 q.1).bind fun y' => (rd r.2 r.1).bind fun w => (c2 y' w).map fun u => (.val u, r.2)
  | .bl false => some (.val (.bl false), q.2)
  | _ => none
theorem tChain_of {K : PySem.W.Frag} {r1 r2 : R2} {c1 c2 : D → D → Option D} {f g h : Em} {σ : L2.St} {H : Hp} {Q : VK} (h1 : RO K cm r1 c1) (h2 : RO K cm r2 c2) (hh : tE K cm (eChain c1 c2 f g h) σ H Q) : tChain r1 r2 (tE K cm f) (tE K cm g) (tE K cm h) σ H Q := by
  obtain ⟨C, A, ρ, t, ρ', R, q, k⟩ := hh
  unfold eChain at q
  simp only [Option.bind_eq_some_iff] at q
  obtain ⟨⟨p, ρ1⟩, e1, ⟨q, ρ2⟩, e2, x, e3, y, e4, z, e5, e6⟩ := q
  refine ⟨C, A, ρ, p, ρ1, R, e1, fun v1 H1 A1 l1 R1 w1 => ⟨C, A1, ρ1, q, ρ2, R1, e2, fun v2 H2 A2 l2 R2 w2 => ?_⟩⟩
  refine h1 A2 H2 v1 v2 x y z _ R2.dom (rd_ok R2 (w1.later l2) e3) (rd_ok R2 w2 e4) e5 fun z' H3 g3 rz => ?_
  have R3 := R2.grow g3
  have l3 := (l1.trans l2).trans (Lt.same g3)
  dsimp only at e6
  split at e6
  · cases rz
    simp only [Option.bind_eq_some_iff, Option.map_eq_some_iff] at e6
    obtain ⟨⟨r, ρ3⟩, e7, y', e8, w, e9, u, e10, e11⟩ := e6
    cases e11
    refine ⟨_, rfl, iteT ⟨C, A2, ρ2, r, ρ3, R3, e7, fun v4 H4 A4 l4 R4 w4 => ?_⟩⟩
    exact h2 A4 H4 v2 v4 y' w u Q R4.dom (rd_ok R4 ((w2.later (.same (C := C) g3)).later l4) e8) (rd_ok R4 w4 e9) e10 fun z5 H5 g5 rz5 => k _ _ A4 ((l3.trans l4).trans (.same g5)) (R4.grow g5) rz5
  · cases rz
    cases e6
    exact ⟨_, rfl, iteF (k _ _ A2 l3 R3 (.bl _))⟩
  · cases e6
theorem fe_chain {op op' : CmpOp} {r1 r2 : R2} {c1 c2 : D → D → Option D} {f g h : Em} (ho : OpR X (compareOp op) r1) (ho' : OpR X (compareOp op') r2) (h1 : RO X.K cm r1 c1) (h2 : RO X.K cm r2 c2) (ha : FE X cm a f) (hb : FE X cm b g) (hc : FE X cm c h) (hm : lastMarks [op, op'] [b, c] = false := by rfl) :
    FE X cm (.Compare a [op, op'] [b, c] pos) (eChain c1 c2 f g h) := (pe_chain ho ho' ha hb hc hm).imp fun _ _ _ q => tChain_of h1 h2 q
theorem fb_chain {op op' : CmpOp} {r1 r2 : R2} {c1 c2 : D → D → Option D} {f g h : Em} (ho : OpR X (compareOp op) r1) (ho' : OpR X (compareOp op') r2) (h1 : RO X.K cm r1 c1) (h2 : RO X.K cm r2 c2) (ha : FE X cm a f) (hb : FE X cm b g) (hc : FE X cm c h) (hm : lastMarks [op, op'] [b, c] = false := by rfl) :
    FB X cm (.Compare a [op, op'] [b, c] pos) (bOf (eChain c1 c2 f g h)) := (pt_chain ho ho' ha hb hc hm).imp fun σ H Q q => tChain_of h1 h2 (tB_of q)

/-! ### argument lists, displays -/
abbrev Am := Rho → Option (List RV × Rho)
def aNil : Am := fun ρ => some ([], ρ)
def aCons (f : Em) (g : Am) : Am := fun ρ => (f ρ).bind fun p => (g p.2).map fun q => (p.1 :: q.1, q.2)
theorem fa_nil : FA X cm [] aNil := pa_nil.imp fun σ H Q ⟨C, A, ρ, t, ρ', R, q, k⟩ => by
  cases q
  exact k [] H A (.refl A H) R .nil
theorem fa_cons {f : Em} {g : Am} (ha : FE X cm e f) (hr : FA X cm es g) (hs : starEach (e :: es) X.env = (false, eval e X.env) :: starEach es X.env := by rfl) : FA X cm (e :: es) (aCons f g) :=
  (pa_cons ha hr hs).imp fun σ H Q ⟨C, A, ρ, t, ρ', R, q, k⟩ => by
    unfold aCons at q
    simp only [Option.bind_eq_some_iff, Option.map_eq_some_iff] at q
    obtain ⟨⟨r, ρ1⟩, h1, ⟨rs, ρ2⟩, h2, h3⟩ := q
    cases h3
    exact ⟨C, A, ρ, r, ρ1, R, h1, fun v1 H1 A1 l1 R1 w1 => ⟨C, A1, ρ1, rs, ρ2, R1, h2, fun vs H2 A2 l2 R2 w2 => k (v1 :: vs) H2 A2 (l1.trans l2) R2 (.cons (w1.later l2) w2)⟩⟩
def pus (ρ : Rho) : List RV → Option (List D)
  | [] => some []
  | r :: rs => (pu ρ r).bind fun d => (pus ρ rs).map fun ds => d :: ds
theorem pus_ok {K : PySem.W.Frag} {C : Fc} {A : AS} {σ : L2.St} {H : Hp} {ρ : Rho} (R : RS K cm C A [] σ H ρ) : ∀ {vs : List V} {rs : List RV} {ds : List D}, RRVs K cm A H σ vs rs → pus ρ rs = some ds → RpL K cm A H vs ds
  | _, _, _, .nil, e => by cases e; exact .nil
  | _, _, _, .cons h t, e => by
    unfold pus at e
    simp only [Option.bind_eq_some_iff, Option.map_eq_some_iff] at e
    obtain ⟨d, e1, ds, e2, e3⟩ := e
    cases e3
    exact .cons (pu_ok R h e1) (pus_ok R t e2)
def eTup (g : Am) : Em := fun ρ => (g ρ).bind fun p => (pus p.2 p.1).bind fun ds => if ds.length ≤ big then some (.val (.tup ds), p.2) else none
theorem fe_tup {g : Am} {x1 : Nat} (h : FA X cm es g) : FE X cm (.Tuple es x1 pos) (eTup g) := (pe_tup h).imp fun σ H Q ⟨C, A, ρ, t, ρ', R, q, k⟩ => by
  unfold eTup at q
  simp only [Option.bind_eq_some_iff] at q
  obtain ⟨⟨rs, ρ1⟩, h1, ds, h2, h3⟩ := q
  split at h3
  · rename_i hz
    cases h3
    refine ⟨C, A, ρ, rs, ρ1, R, h1, fun vs H1 A1 l1 R1 w1 => ?_⟩
    have r := pus_ok R1 w1 h2
    refine ⟨big_le (by rw [r.length]; exact hz), fun p hp => k _ _ A1 (l1.trans (.same (same_new hp))) (R1.grow (same_new hp)) (new_tup R1.dom hp r)⟩
  · cases h3
def nLst (g : Am) : Rho → Option (T × Rho) := fun ρ => (g ρ).bind fun p => (pus p.2 p.1).bind fun ds => if ds.length ≤ big then some (.ls ds, p.2) else none
/-- one fresh thing to own -/
theorem own1 {K : PySem.W.Frag} {C : Fc} {A : AS} {σ : L2.St} {H : Hp} {ρ : Rho} {p : Addr} {o : HO} (R : RS K cm C A [] σ H ρ) (hp : H p = none) (hpl : ∀ φ, o ≠ .ext φ := by intro _ z; cases z) :
    Lt C A H (fun a => A a ∨ a = p) (upd H p o) ∧ RS K cm C (fun a => A a ∨ a = p) [p] σ (upd H p o) ρ ∧ ∀ a ∈ [p], C.H0 a = none ∧ (A a ∨ a = p) ∧ ¬ C.A0 a := by
  have l : Later A H (fun a => A a ∨ a = p) (upd H p o) := ⟨(Later.same (A := A) (same_new hp)).st, fun a z => z.imp id fun z => by rw [z]; exact hp, (Later.same (A := A) (same_new hp)).dm⟩
  have h0 := R.new0 hp
  refine ⟨⟨l, fun a o _ e _ => same_new hp a o e⟩, ?_, fun a m => ?_⟩
  · obtain ⟨F, h1, h2, h3, h4, h5⟩ := R.sl
    refine ⟨R.len, ⟨F, h1, h2, fun i a m => ⟨.inl (h3 i a m).1, (h3 i a m).2.1, fun z => ?_⟩, h4, fun i s e => ?_⟩, fun a z => .inl (R.out a z), fun a z => z.elim (R.sub a) fun z => by rw [z]; exact .inr (.inr h0), fun a z => ?_, fun a o e t n => same_new hp a o (R.fr a o e t n), fun a z => l.dm a (R.fd a z), R.tb.ext (same_new hp), fun a z φ e => ?_⟩
    · obtain rfl : a = p := by simpa using z
      exact R.new hp (h3 i a m).1
    · obtain ⟨o, e1, r⟩ := h5 i s e
      exact ⟨o, e1, r.keep l fun a _ o q _ => same_new hp a o q⟩
    · rcases z with z | z
      · exact l.dm a (R.dom a z)
      · rw [z, upd_same]; exact fun z => nomatch z
    · rcases z with z | z
      · rw [upd_ne (fun w => R.new hp (by rw [← w]; exact z))] at e
        exact R.ne a z φ e
      · rw [z, upd_same] at e
        exact hpl φ (Option.some.inj e)
  · obtain rfl : a = p := by simpa using m
    exact ⟨h0, .inr rfl, fun z => R.new hp (R.out a z)⟩
theorem fn_lst {g : Am} (h : FA X cm es g) : FN X cm (.List es pos) (nLst g) := (pe_lst h).imp fun σ H Q ⟨C, A, ρ, t, ρ', R, q, k⟩ => by
  unfold nLst at q
  simp only [Option.bind_eq_some_iff] at q
  obtain ⟨⟨rs, ρ1⟩, h1, ds, h2, h3⟩ := q
  split at h3
  · rename_i hz
    cases h3
    refine ⟨C, A, ρ, rs, ρ1, R, h1, fun vs H1 A1 l1 R1 w1 => ?_⟩
    have r := pus_ok R1 w1 h2
    refine ⟨big_le (by rw [r.length]; exact hz), fun p hp => ?_⟩
    obtain ⟨l2, R2, hF⟩ := own1 (o := .lst vs) R1 hp
    exact k _ _ _ [p] (l1.trans l2) R2 ⟨p, vs, rfl, rfl, upd_same, r.later l2.l⟩ (by simp) hF
  · cases h3
def nDic0 : Rho → Option (T × Rho) := fun ρ => some (.di [], ρ)
def nDit0 : Rho → Option (T × Rho) := fun ρ => some (.dt [], ρ)
theorem fn_dic0 : FN X cm (.Dict [] [] pos) nDic0 := pe_dnewK.imp fun σ H Q ⟨C, A, ρ, t, ρ', R, q, k⟩ => by
  cases q
  intro p hp
  obtain ⟨l2, R2, hF⟩ := own1 (o := .dK []) R hp
  exact k _ _ _ [p] l2 R2 ⟨p, [], rfl, rfl, upd_same, .nil⟩ (by simp) hF
theorem fn_dit0 : FN X cm (.Dict [] [] pos) nDit0 := pe_dnewT.imp fun σ H Q ⟨C, A, ρ, t, ρ', R, q, k⟩ => by
  cases q
  intro p hp
  obtain ⟨l2, R2, hF⟩ := own1 (o := .dT []) R hp
  exact k _ _ _ [p] l2 R2 ⟨p, [], rfl, rfl, upd_same, .nil⟩ (by simp) hF
/-- a name whose thing is handed on: it is the name's no longer -/
def nMove (i : Nat) : Rho → Option (T × Rho) := fun ρ => match ρ[i]? with
  | some (.v (.p d)) => some (.p d, ρ)
  | some (.v t) => some (t, ρ.set i .no)
  | _ => none
theorem fn_move {i : Nat} (h : PE X e (tVar i)) : FN X cm e (nMove i) := h.imp fun σ H Q ⟨C, A, ρ, t, ρ', R, q, k⟩ => by
  obtain ⟨F, h1, h2, h3, h4, h5⟩ := R.sl
  unfold nMove at q
  split at q
  · rename_i d g
    cases q
    obtain ⟨o, e1, v, rfl, r, f⟩ := h5 i _ g
    exact ⟨v, e1, k v H A [] (.refl A H) R ⟨rfl, r.2⟩ .nil fun a m => nomatch m⟩
  · rename_i t' _ g
    cases q
    have hil : i < ρ.length := (List.getElem?_eq_some_iff.mp g).1
    obtain ⟨o, e1, v, rfl, r, f⟩ := h5 i _ g
    refine ⟨v, e1, k v H A (F i) (.refl A H) ⟨by rw [List.length_set]; exact R.len, ⟨fun j => if j = i then [] else F j, fun j => ?_, fun j l a m m' => ?_, fun j a m => ?_, fun j e => ?_, fun j s e => ?_⟩, R.out, R.sub, R.dom, R.fr, R.fd, R.tb, R.ne⟩ r (h1 i) fun a m => ⟨f a m, (h3 i a m).1, (h3 i a m).2.1⟩⟩
    · dsimp only; split
      · exact .nil
      · exact h1 j
    · dsimp only at m m'
      split at m <;> split at m' <;> first | cases m | cases m' | exact h2 j l a m m'
    · dsimp only at m
      split at m
      · cases m
      · rename_i hj
        exact ⟨(h3 j a m).1, (h3 j a m).2.1, fun z => hj (h2 j i a m z)⟩
    · dsimp only
      split
      · rfl
      · rename_i hj
        rw [List.getElem?_set_ne (Ne.symm hj)] at e
        exact h4 j e
    · dsimp only
      by_cases hj : j = i
      · subst hj
        rw [List.getElem?_set_self hil] at e; cases e
        refine ⟨_, e1, ?_⟩
        rw [if_pos rfl]; rfl
      · rw [if_neg hj]
        rw [List.getElem?_set_ne (Ne.symm hj)] at e
        exact h5 j s e
  · cases q
end
end G

/-! Ly6: statements, targets, loops. -/
namespace G
open PySem PySem.Spec L2

inductive Out where
  | nx (ρ : Rho) | rt (t : T) (ρ : Rho) | bk (ρ : Rho) | ct (ρ : Rho)
abbrev Sm := Rho → Option Out
section
variable (K : PySem.W.Frag) (cm : Cm)
def Kont (C : Fc) (A : AS) (H : Hp) (D : Ends) : Out → Prop
  | .nx ρ' => ∀ σ' H' A', Lt C A H A' H' → RS K cm C A' [] σ' H' ρ' → D.nx σ' H'
  | .bk ρ' => ∀ σ' H' A', Lt C A H A' H' → RS K cm C A' [] σ' H' ρ' → D.bk σ' H'
  | .ct ρ' => ∀ σ' H' A', Lt C A H A' H' → RS K cm C A' [] σ' H' ρ' → D.ct σ' H'
  | .rt t ρ' => ∀ v σ' H' A' F, Lt C A H A' H' → RS K cm C A' F σ' H' ρ' → RT K cm A' H' v t F → F.Nodup → (∀ a ∈ F, C.H0 a = none ∧ A' a ∧ ¬ C.A0 a) → D.rt v H'
def tS (g : Sm) : TS := fun D σ H => ∃ C A ρ o, RS K cm C A [] σ H ρ ∧ g ρ = some o ∧ Kont K cm C A H D o
/-- a target that takes d; is: the slots that it may change -/
def tG (is : List Nat) (h : D → Rho → Option Rho) : TG := fun v σ H Q => ∃ C A ρ d ρ', RS K cm C A [] σ H ρ ∧ Rp K cm A H v d ∧ h d ρ = some ρ' ∧
  ∀ σ' H' A', Lt C A H A' H' → RS K cm C A' [] σ' H' ρ' → σ'.length = σ.length → (∀ j, j ∉ is → σ'[j]? = σ[j]?) → Q σ' H'
def tGs (is : List Nat) (h : List D → Rho → Option Rho) : TGs := fun vs σ H Q => ∃ C A ρ ds ρ', RS K cm C A [] σ H ρ ∧ RpL K cm A H vs ds ∧ h ds ρ = some ρ' ∧
  ∀ σ' H' A', Lt C A H A' H' → RS K cm C A' [] σ' H' ρ' → σ'.length = σ.length → (∀ j, j ∉ is → σ'[j]? = σ[j]?) → Q σ' H'
/-- what is walked: ds -/
structure ItOk (J : It) (W : AS → Hp → Prop) (ds : List D) : Prop where
  stay : ∀ A H A' H', W A H → Later A H A' H' → W A' H'
  go : ∀ A H i, W A H → i < ds.length → J.go i H
  yld : ∀ A H i x H' d, W A H → (∀ a, A a → H a ≠ none) → ds[i]? = some d → J.yld i H x H' → Same H H' ∧ Rp K cm A H' x d
  stop : ∀ A H i, W A H → ds.length ≤ i → J.stop i H
abbrev Im := Rho → Option (List D × Rho)
def tI (f : Im) : TI := fun σ H R => ∃ C A ρ ds ρ', RS K cm C A [] σ H ρ ∧ f ρ = some (ds, ρ') ∧
  ∀ J H' A' W, Lt C A H A' H' → RS K cm C A' [] σ H' ρ' → ItOk K cm J W ds → W A' H' → R J H'
end
section
variable {K : PySem.W.Frag} {cm : Cm} {A A' : AS} {H H' : Hp} {C : Fc}
theorem RT.pure {v : V} {d : D} (r : Rp K cm A H v d) : RT K cm A H v (.p d) [] := ⟨rfl, r⟩
theorem Kont.later {D : Ends} {o : Out} (l : Lt C A H A' H') (k : Kont K cm C A H D o) : Kont K cm C A' H' D o := by
  cases o with
  | nx ρ => exact fun σ2 H2 A2 l2 R => k σ2 H2 A2 (l.trans l2) R
  | bk ρ => exact fun σ2 H2 A2 l2 R => k σ2 H2 A2 (l.trans l2) R
  | ct ρ => exact fun σ2 H2 A2 l2 R => k σ2 H2 A2 (l.trans l2) R
  | rt t ρ => exact fun v σ2 H2 A2 F l2 R => k v σ2 H2 A2 F (l.trans l2) R
end
section
variable (X : Cx) (cm : Cm)
abbrev FS (st : Stmt) (g : Sm) : Prop := PS X st (tS X.K cm g)
abbrev FSs (sts : List Stmt) (g : Sm) : Prop := PSs X sts (tS X.K cm g)
abbrev FG (tg : Expr) (is : List Nat) (h : D → Rho → Option Rho) : Prop := PG X tg (tG X.K cm is h)
abbrev FGs (tgs : List Expr) (is : List Nat) (h : List D → Rho → Option Rho) : Prop := PGs X tgs (tGs X.K cm is h)
abbrev FI (tg iter : Expr) (f : Im) : Prop := PI X tg iter (tI X.K cm f)
end
section
variable {X : Cx} {cm : Cm} {pos pos' : Pos} {e a b c tg iter : Expr} {es : List Expr} {st : Stmt} {sts : List Stmt}
theorem _root_.L2.PG.imp {e : Expr} {t t' : TG} (h : PG X e t) (i : ∀ v σ H Q, t' v σ H Q → t v σ H Q) : PG X e t' := ⟨fun pins s σ H v u Q I r q => h.run pins s σ H v u Q I r (i v σ H Q q)⟩
theorem _root_.L2.PGs.imp {e : List Expr} {t t' : TGs} (h : PGs X e t) (i : ∀ v σ H Q, t' v σ H Q → t v σ H Q) : PGs X e t' := ⟨fun pins s σ H v u Q I r q => h.run pins s σ H v u Q I r (i v σ H Q q)⟩
theorem _root_.L2.PI.imp {t t' : TI} (h : PI X tg iter t) (i : ∀ σ H R, t' σ H R → t σ H R) : PI X tg iter t' := ⟨fun pins s σ H R I q => h.run pins s σ H R I (i σ H R q)⟩
theorem _root_.L2.PI.or {t t' : TI} (h : PI X tg iter t) (h' : PI X tg iter t') : PI X tg iter (fun σ H R => t σ H R ∨ t' σ H R) := ⟨fun pins s σ H R I q => q.elim (h.run pins s σ H R I) (h'.run pins s σ H R I)⟩

/-! ### small statements -/
def sNil : Sm := fun ρ => some (.nx ρ)
def sSeq (g h : Sm) : Sm := fun ρ => (g ρ).bind fun o => match o with
  | .nx ρ1 => h ρ1
  | .rt t ρ1 => some (.rt t ρ1)
  | .bk ρ1 => some (.bk ρ1)
  | .ct ρ1 => some (.ct ρ1)
theorem fss_nil : FSs X cm [] sNil := pss_nil.imp fun D σ H ⟨C, A, ρ, o, R, q, k⟩ => by
  cases q
  exact k σ H A (.refl A H) R
theorem fss_cons {g h : Sm} (h1 : FS X cm st g) (h2 : FSs X cm sts h) : FSs X cm (st :: sts) (sSeq g h) := (pss_cons h1 h2).imp fun D σ H ⟨C, A, ρ, o, R, q, k⟩ => by
  unfold sSeq at q
  rw [Option.bind_eq_some_iff] at q
  obtain ⟨o1, h1, h2⟩ := q
  refine ⟨C, A, ρ, o1, R, h1, ?_⟩
  cases o1 with
  | nx ρ1 => exact fun σ1 H1 A1 l1 R1 => ⟨C, A1, ρ1, o, R1, h2, k.later l1⟩
  | rt t ρ1 => cases h2; exact k
  | bk ρ1 => cases h2; exact k
  | ct ρ1 => cases h2; exact k
theorem fss_one {g : Sm} (h1 : FS X cm st g) : FSs X cm [st] g := pss_one h1
def sNever : Sm := fun _ => none
theorem fs_never : FS X cm st sNever := ps_never.imp fun D σ H ⟨C, A, ρ, o, R, q, k⟩ => by cases q
theorem fs_pass : FS X cm (.Pass pos) sNil := ps_pass.imp fun D σ H ⟨C, A, ρ, o, R, q, k⟩ => by
  cases q
  exact k σ H A (.refl A H) R
def sBreak : Sm := fun ρ => some (.bk ρ)
def sCont : Sm := fun ρ => some (.ct ρ)
theorem fs_break : FS X cm (.Break pos) sBreak := ps_break.imp fun D σ H ⟨C, A, ρ, o, R, q, k⟩ => by
  cases q
  exact k σ H A (.refl A H) R
theorem fs_cont : FS X cm (.Continue pos) sCont := ps_continue.imp fun D σ H ⟨C, A, ρ, o, R, q, k⟩ => by
  cases q
  exact k σ H A (.refl A H) R
def sE (f : Em) : Sm := fun ρ => (f ρ).map fun p => .nx p.2
theorem fs_expr {f : Em} (h : FE X cm e f) (hs : swapsWith e none pos.line X.env = pure false := by rfl) : FS X cm (.Expr e pos) (sE f) := (ps_expr h hs).imp fun D σ H ⟨C, A, ρ, o, R, q, k⟩ => by
  unfold sE at q
  rw [Option.map_eq_some_iff] at q
  obtain ⟨⟨r, ρ1⟩, h1, h2⟩ := q
  cases h2
  exact ⟨C, A, ρ, r, ρ1, R, h1, fun v H1 A1 l1 R1 _ => k σ H1 A1 l1 R1⟩
def sRet (f : Rho → Option (T × Rho)) : Sm := fun ρ => (f ρ).map fun p => .rt p.1 p.2
theorem fs_ret {f : Rho → Option (T × Rho)} (h : FN X cm e f) : FS X cm (.Return (some e) pos) (sRet f) := (ps_ret h).imp fun D σ H ⟨C, A, ρ, o, R, q, k⟩ => by
  unfold sRet at q
  rw [Option.map_eq_some_iff] at q
  obtain ⟨⟨t, ρ1⟩, h1, h2⟩ := q
  cases h2
  exact ⟨C, A, ρ, t, ρ1, R, h1, fun v H1 A1 F l1 R1 rt hn hF => k v σ H1 A1 F l1 R1 rt hn hF⟩
def sRetN : Sm := fun ρ => some (.rt (.p .non) ρ)
theorem fs_retN : FS X cm (.Return none pos) sRetN := ps_retN.imp fun D σ H ⟨C, A, ρ, o, R, q, k⟩ => by
  cases q
  exact k _ σ H A [] (.refl A H) R ⟨rfl, .non⟩ .nil fun a m => nomatch m
def sIf (f : Bm) (g h : Sm) : Sm := fun ρ => (f ρ).bind fun p => if p.1 then g p.2 else h p.2
theorem fs_if {f : Bm} {g h : Sm} {p q : List Stmt} (hc : FB X cm c f) (ha : FSs X cm p g) (hb : FSs X cm q h) : FS X cm (.If c p q pos) (sIf f g h) := (ps_if hc ha hb).imp fun D σ H ⟨C, A, ρ, o, R, q, k⟩ => by
  unfold sIf at q
  rw [Option.bind_eq_some_iff] at q
  obtain ⟨⟨x, ρ1⟩, h1, h2⟩ := q
  refine ⟨C, A, ρ, x, ρ1, R, h1, fun H1 A1 l1 R1 => ?_⟩
  cases x with
  | true => exact iteT ⟨C, A1, ρ1, o, R1, h2, k.later l1⟩
  | false => exact iteF ⟨C, A1, ρ1, o, R1, h2, k.later l1⟩

/-! ### stores -/
def setV (i : Nat) (t : T) (ρ : Rho) : Option Rho := match ρ[i]? with
  | some .no => some (ρ.set i (.v t))
  | some (.v _) => some (ρ.set i (.v t))
  | _ => none
theorem setV_some {i : Nat} {t : T} {ρ ρ' : Rho} (h : setV i t ρ = some ρ') : (∃ s, ρ[i]? = some s ∧ ∀ t, s ≠ .pin t) ∧ ρ' = ρ.set i (.v t) := by
  unfold setV at h
  split at h
  · rename_i e; cases h; exact ⟨⟨_, e, fun _ z => nomatch z⟩, rfl⟩
  · rename_i e; cases h; exact ⟨⟨_, e, fun _ z => nomatch z⟩, rfl⟩
  · cases h
def sAsg (i : Nat) (f : Rho → Option (T × Rho)) : Sm := fun ρ => (f ρ).bind fun p => (setV i p.1 p.2).map .nx
theorem sAsg_of {K : PySem.W.Frag} {i : Nat} {f : Rho → Option (T × Rho)} {D : Ends} {σ : L2.St} {H : Hp} (h : tS K cm (sAsg i f) D σ H) : tN K cm f σ H (fun x H1 => D.nx (σ.set i (some x)) H1) := by
  obtain ⟨C, A, ρ, o, R, q, k⟩ := h
  unfold sAsg at q
  simp only [Option.bind_eq_some_iff, Option.map_eq_some_iff] at q
  obtain ⟨⟨t, ρ1⟩, h1, ρ2, h2, h3⟩ := q
  cases h3
  refine ⟨C, A, ρ, t, ρ1, R, h1, fun v H1 A1 F l1 R1 rt hn hF => ?_⟩
  obtain ⟨hs, rfl⟩ := setV_some h2
  exact k _ H1 A1 l1 (R1.set hs rt hn hF)
theorem fs_asg {i : Nat} {x : Str} {f : Rho → Option (T × Rho)} (hN : X.N.Nodup) (hi : X.N[i]? = some x) (hx : Loc X.env.scope x) (h : FN X cm e f) (hs : swapsWith e (some (.Name x pos')) pos.line X.env = pure false := by rfl) (hf : X.fn x = true ∨ X.env.scope.names.lookup x = some .local := by first | exact .inl rfl | exact .inr rfl | assumption) :
    FS X cm (.Assign [.Name x pos'] e pos) (sAsg i f) := (ps_set hN hi hx h hs hf).imp fun D σ H q => sAsg_of q
def sPar (i j : Nat) (g : Am) : Sm := fun ρ => (g ρ).bind fun p => (pus p.2 p.1).bind fun ds => match ds with
  | [d, e] => (setV i (.p d) p.2).bind fun ρ1 => (setV j (.p e) ρ1).map .nx
  | _ => none
theorem fs_par {i j : Nat} {x y : Str} {g : Am} {px py pt : Pos} {kt k2 : Nat} {pt2 : Pos} (hc : X.calm = true) (hN : X.N.Nodup) (hi : X.N[i]? = some x) (hj : X.N[j]? = some y) (hij : i ≠ j) (ha : FA X cm [a, b] g)
    (hx : X.env.scope.names.lookup x = some .local) (hy : X.env.scope.names.lookup y = some .local) (hw : swappedStores [.Tuple [.Name x px, .Name y py] kt pt] (.Tuple [a, b] k2 pt2) X.env = pure (some [x, y]) := by rfl) :
    FS X cm (.Assign [.Tuple [.Name x px, .Name y py] kt pt] (.Tuple [a, b] k2 pt2) pos) (sPar i j g) := (ps_par hc hN hi hj hij hx hy ha hw).imp fun D σ H ⟨C, A, ρ, o, R, q, k⟩ => by
  unfold sPar at q
  simp only [Option.bind_eq_some_iff] at q
  obtain ⟨⟨rs, ρ1⟩, h1, ds, h2, h3⟩ := q
  refine ⟨C, A, ρ, rs, ρ1, R, h1, fun vs H1 A1 l1 R1 w1 => ?_⟩
  have r := pus_ok R1 w1 h2
  dsimp only at h3
  split at h3
  · simp only [Option.bind_eq_some_iff, Option.map_eq_some_iff] at h3
    obtain ⟨ρ2, h4, ρ3, h5, h6⟩ := h3
    cases h6
    cases r with
    | cons r1 r => cases r with
      | cons r2 r => cases r with
        | nil =>
          obtain ⟨hs, rfl⟩ := setV_some h4
          obtain ⟨hs', rfl⟩ := setV_some h5
          refine ⟨_, _, rfl, k _ H1 A1 l1 ?_⟩
          have R2 := RS.set R1 hs (RT.pure r1) .nil fun a m => nomatch m
          exact RS.set R2 hs' (RT.pure r2) .nil fun a m => nomatch m
  · cases h3
/-! targets -/
def hName (i : Nat) : D → Rho → Option Rho := fun d ρ => setV i (.p d) ρ
theorem fg_name {i : Nat} (h : PG X e (gName i)) : FG X cm e [i] (hName i) := h.imp fun v σ H Q ⟨C, A, ρ, d, ρ', R, r, q, k⟩ => by
  obtain ⟨hs, rfl⟩ := setV_some q
  refine k _ H A (.refl A H) (RS.set R hs (RT.pure r) .nil fun a m => nomatch m) (by rw [List.length_set]) fun j hj => ?_
  rw [List.getElem?_set_ne]
  simpa using fun z => hj (by simp [z])
def hNil : List D → Rho → Option Rho := fun ds ρ => match ds with
  | [] => some ρ
  | _ => none
def hCons (h : D → Rho → Option Rho) (hs : List D → Rho → Option Rho) : List D → Rho → Option Rho := fun ds ρ => match ds with
  | d :: r => (h d ρ).bind fun ρ1 => hs r ρ1
  | _ => none
theorem fgs_nil : FGs X cm [] [] hNil := pgs_nil.imp fun vs σ H Q ⟨C, A, ρ, ds, ρ', R, r, q, k⟩ => by
  cases r with
  | nil => cases q; exact ⟨rfl, k σ H A (.refl A H) R rfl fun _ _ => rfl⟩
  | cons _ _ => cases q
theorem fgs_cons {is js : List Nat} {h : D → Rho → Option Rho} {hs : List D → Rho → Option Rho} (h1 : FG X cm e is h) (h2 : FGs X cm es js hs) (hq : (assignEach (e :: es) X.env).map (·.2) = assign e X.env :: (assignEach es X.env).map (·.2) := by rfl) : FGs X cm (e :: es) (is ++ js) (hCons h hs) :=
  (pgs_cons h1 h2 hq).imp fun vs σ H Q ⟨C, A, ρ, ds, ρ', R, r, q, k⟩ => by
    cases r with
    | nil => cases q
    | cons r0 rr =>
      simp only [hCons, Option.bind_eq_some_iff] at q
      obtain ⟨ρ1, q1, q2⟩ := q
      refine ⟨_, _, rfl, C, A, ρ, _, ρ1, R, r0, q1, fun σ1 H1 A1 l1 R1 e1 f1 => ⟨C, A1, ρ1, _, ρ', R1, rr.later l1.l, q2, fun σ2 H2 A2 l2 R2 e2 f2 => k σ2 H2 A2 (l1.trans l2) R2 (e2.trans e1) fun j hj => ?_⟩⟩
      rw [List.mem_append, not_or] at hj
      rw [f2 j hj.2, f1 j hj.1]
def hTup (n : Nat) (hs : List D → Rho → Option Rho) : D → Rho → Option Rho := fun d ρ => match d with
  | .tup ds => if ds.length = n then hs ds ρ else none
  | _ => none
theorem fg_tup {is : List Nat} {hs : List D → Rho → Option Rho} {n k : Nat} (hc : X.calm = true) (h : FGs X cm es is hs) (hn : (assignEach es X.env).length = n := by rfl) (hst : (assignEach es X.env).findIdx? (·.1) = none := by rfl) : FG X cm (.Tuple es k pos) is (hTup n hs) :=
  (pg_tup hc h hn hst).imp fun v σ H Q ⟨C, A, ρ, d, ρ', R, r, q, k⟩ => by
    unfold hTup at q
    split at q
    · rename_i ds
      split at q
      · rename_i hl
        cases r with
        | tup r rr => exact ⟨_, _, rfl, r.sq, by rw [rr.length]; exact hl, C, A, ρ, ds, ρ', R, rr, q, k⟩
      · cases q
    · cases q
def sT (f : Em) (h : D → Rho → Option Rho) : Sm := fun ρ => (f ρ).bind fun p => (pu p.2 p.1).bind fun d => (h d p.2).map .nx
theorem fs_tgt {f : Em} {is : List Nat} {h : D → Rho → Option Rho} (he : FE X cm e f) (hg : FG X cm tg is h) (hs : swapsWithSole [tg] e pos.line X.env = pure false := by rfl) (hw : swappedStores [tg] e X.env = pure none := by rfl) (h1 : (assignEach [tg] X.env).map (·.2) = [assign tg X.env] := by rfl) : FS X cm (.Assign [tg] e pos) (sT f h) :=
  (ps_asg he hg hs hw h1).imp fun D σ H ⟨C, A, ρ, o, R, q, k⟩ => by
    unfold sT at q
    simp only [Option.bind_eq_some_iff, Option.map_eq_some_iff] at q
    obtain ⟨⟨r, ρ1⟩, h1, d, h2, ρ2, h3, h4⟩ := q
    cases h4
    exact ⟨C, A, ρ, r, ρ1, R, h1, fun v H1 A1 l1 R1 w1 => ⟨C, A1, ρ1, d, ρ2, R1, pu_ok R1 w1 h2, h3, fun σ2 H2 A2 l2 R2 _ _ => k σ2 H2 A2 (l1.trans l2) R2⟩⟩

/-! ### loops -/
def whileF (c : Bm) (b : Sm) : Nat → Sm
  | 0 => fun _ => none
  | n + 1 => fun ρ => (c ρ).bind fun p => if p.1 then (b p.2).bind fun o => match o with
      | .nx ρ2 => whileF c b n ρ2
      | .ct ρ2 => whileF c b n ρ2
      | .bk ρ2 => some (.nx ρ2)
      | .rt t ρ2 => some (.rt t ρ2)
    else some (.nx p.2)
theorem fs_while {N : Nat} {f : Bm} {g : Sm} {body : List Stmt} (hp : PassesOwn (model X.prog X.w) X.A X.env X.xe) (hc : FB X cm c f) (hb : FSs X cm body g) : FS X cm (.While c body [] pos) (whileF f g N) :=
  (ps_while hp hc hb).imp fun D σ H ⟨C, A, ρ, o, R, q, k⟩ => by
    refine ⟨fun m σ1 H1 => ∃ A1 ρ1, Lt C A H A1 H1 ∧ RS X.K cm C A1 [] σ1 H1 ρ1 ∧ whileF f g m ρ1 = some o, ⟨N, A, ρ, .refl A H, R, q⟩, fun m σ1 H1 ⟨A1, ρ1, l1, R1, q1⟩ => ?_⟩
    cases m with
    | zero => cases q1
    | succ m =>
      simp only [whileF, Option.bind_eq_some_iff] at q1
      obtain ⟨⟨x, ρ2⟩, h1, h2⟩ := q1
      refine ⟨C, A1, ρ1, x, ρ2, R1, h1, fun H2 A2 l2 R2 => ?_⟩
      cases x with
      | false =>
        cases h2
        exact iteF (k σ1 H2 A2 (l1.trans l2) R2)
      | true =>
        rw [if_pos rfl, Option.bind_eq_some_iff] at h2
        obtain ⟨o2, h3, h4⟩ := h2
        refine iteT ⟨fun σ3 H3 => ∃ A3 ρ3, Lt C A H A3 H3 ∧ RS X.K cm C A3 [] σ3 H3 ρ3 ∧ whileF f g m ρ3 = some o, fun σ3 H3 h => ⟨m, Nat.lt_succ_self m, h⟩, C, A2, ρ2, o2, R2, h3, ?_⟩
        have l12 := l1.trans l2
        cases o2 with
        | nx ρ3 => exact fun σ3 H3 A3 l3 R3 => ⟨A3, ρ3, l12.trans l3, R3, h4⟩
        | ct ρ3 => exact fun σ3 H3 A3 l3 R3 => ⟨A3, ρ3, l12.trans l3, R3, h4⟩
        | bk ρ3 => cases h4; exact fun σ3 H3 A3 l3 R3 => k σ3 H3 A3 (l12.trans l3) R3
        | rt t ρ3 => cases h4; exact fun v σ3 H3 A3 F l3 R3 => k v σ3 H3 A3 F (l12.trans l3) R3
def forF (h : D → Rho → Option Rho) (b : Sm) : List D → Sm
  | [] => fun ρ => some (.nx ρ)
  | d :: ds => fun ρ => (h d ρ).bind fun ρ1 => (b ρ1).bind fun o => match o with
      | .nx ρ2 => forF h b ds ρ2
      | .ct ρ2 => forF h b ds ρ2
      | .bk ρ2 => some (.nx ρ2)
      | .rt t ρ2 => some (.rt t ρ2)
def sFor (f : Im) (h : D → Rho → Option Rho) (b : Sm) : Sm := fun ρ => (f ρ).bind fun p => forF h b p.1 p.2
theorem drop_cons_of {ds : List D} {i : Nat} (hi : i < ds.length) : ds.drop i = ds[i] :: ds.drop (i + 1) := List.drop_eq_getElem_cons hi
theorem tFor_core {K : PySem.W.Frag} {wi : TI} {is : List Nat} {ds : List D} {h : D → Rho → Option Rho} {g : Sm} {σ : L2.St} {H : Hp} {D0 : Ends} {C : Fc} {A : AS} {ρ1 : Rho} {o : Out}
    (hw : ∀ R' : It → Hp → Prop, (∀ J H1 A1 W, Lt C A H A1 H1 → RS K cm C A1 [] σ H1 ρ1 → ItOk K cm J W ds → W A1 H1 → R' J H1) → wi σ H R') (h2 : forF h g ds ρ1 = some o) (k : Kont K cm C A H D0 o) : tFor wi (tG K cm is h) (tS K cm g) D0 σ H := by
    refine hw _ fun J H1 A1 W l1 R1 hJ w1 => ?_
    refine ⟨fun i m σ2 H2 => m = ds.length - i ∧ i ≤ ds.length ∧ ∃ A2 ρ2, Lt C A H A2 H2 ∧ RS K cm C A2 [] σ2 H2 ρ2 ∧ W A2 H2 ∧ forF h g (ds.drop i) ρ2 = some o, ⟨ds.length, by simp, Nat.zero_le _, A1, ρ1, l1, R1, w1, h2⟩, ?_⟩
    rintro i m σ2 H2 ⟨rfl, hi, A2, ρ2, l2, R2, w2, q2⟩
    by_cases hlt : i < ds.length
    · rw [drop_cons_of hlt] at q2
      simp only [forF, Option.bind_eq_some_iff] at q2
      obtain ⟨ρ3, q3, o3, q4, q5⟩ := q2
      refine .inr ⟨hJ.go A2 H2 i w2 hlt, fun σ3 H3 => ∃ A3 ρ3, Lt C A H A3 H3 ∧ RS K cm C A3 [] σ3 H3 ρ3 ∧ W A3 H3 ∧ forF h g (ds.drop (i + 1)) ρ3 = some o, fun σ3 H3 h => ⟨ds.length - (i + 1), by omega, rfl, hlt, h⟩, fun x H3 hy => ?_⟩
      obtain ⟨g3, r3⟩ := hJ.yld A2 H2 i x H3 ds[i] w2 R2.dom (List.getElem?_eq_getElem hlt) hy
      have R3 := R2.grow g3
      have l3 : Lt C A2 H2 A2 H3 := .same g3
      refine ⟨C, A2, ρ2, ds[i], ρ3, R3, r3, q3, fun σ4 H4 A4 l4 R4 _ _ => ⟨C, A4, ρ3, o3, R4, q4, ?_⟩⟩
      have l23 := (l2.trans l3).trans l4
      have w3 := hJ.stay _ _ _ _ w2 (l3.trans l4).l
      cases o3 with
      | nx ρ4 => exact fun σ5 H5 A5 l5 R5 => ⟨A5, ρ4, l23.trans l5, R5, hJ.stay _ _ _ _ w3 l5.l, q5⟩
      | ct ρ4 => exact fun σ5 H5 A5 l5 R5 => ⟨A5, ρ4, l23.trans l5, R5, hJ.stay _ _ _ _ w3 l5.l, q5⟩
      | bk ρ4 => cases q5; exact fun σ5 H5 A5 l5 R5 => k σ5 H5 A5 (l23.trans l5) R5
      | rt t ρ4 => cases q5; exact fun v σ5 H5 A5 F l5 R5 => k v σ5 H5 A5 F (l23.trans l5) R5
    · refine .inl ⟨hJ.stop A2 H2 i w2 (by omega), ?_⟩
      rw [List.drop_of_length_le (by omega)] at q2
      cases q2
      exact k σ2 H2 A2 l2 R2
theorem fs_for {f : Im} {is : List Nat} {h : D → Rho → Option Rho} {g : Sm} {body : List Stmt} (hp : PassesOwn (model X.prog X.w) X.A X.env X.xe) (hc : X.calm = true) (hi : FI X cm tg iter f) (hg : FG X cm tg is h) (hb : FSs X cm body g)
    (hs : ∀ x, foldedSetIterable iter X.env x = pure x := by intro _; rfl) : FS X cm (.For tg iter body [] pos) (sFor f h g) :=
  (ps_for hp hc hi hg hb hs).imp fun D σ H ⟨C, A, ρ, o, R, q, k⟩ => by
    unfold sFor at q
    rw [Option.bind_eq_some_iff] at q
    obtain ⟨⟨ds, ρ1⟩, h1, h2⟩ := q
    exact tFor_core (fun R' hR => ⟨C, A, ρ, ds, ρ1, R, h1, hR⟩) h2 k
/-! what is walked -/
def rgOk (j : Int) : Bool := Nat.blt j.natAbs (2 ^ 61)
def rgD (lo : Int) (n : Nat) : List D := (List.range n).map fun i => .int (lo + (i : Nat))
def iRng1 (g : Am) : Im := fun ρ => (g ρ).bind fun p => (pus p.2 p.1).bind fun ds => match ds with
  | [.int j] => if rgOk j then some (rgD 0 j.toNat, p.2) else none
  | _ => none
def iRng2 (g : Am) : Im := fun ρ => (g ρ).bind fun p => (pus p.2 p.1).bind fun ds => match ds with
  | [.int i, .int j] => if rgOk i && rgOk j then some (rgD i (j - i).toNat, p.2) else none
  | _ => none
theorem it_rng {K : PySem.W.Frag} {lo : Int} {n : Nat} : ItOk K cm (Itr lo n) (fun _ _ => True) (rgD lo n) where
  stay := fun _ _ _ _ _ _ => trivial
  go := fun _ _ i _ h' => by
    show i < n
    simpa [rgD] using h'
  yld := fun A H i x H' d _ _ e hy => by
    obtain ⟨rfl, rfl⟩ := hy
    unfold rgD at e
    simp only [List.getElem?_map, Option.map_eq_some_iff] at e
    obtain ⟨j, e1, rfl⟩ := e
    have hj : i < n := by
      have := (List.getElem?_eq_some_iff.mp e1).1
      simpa using this
    rw [List.getElem?_range hj] at e1
    cases e1; exact ⟨.refl _, .int _⟩
  stop := fun _ _ i _ h' => by
    show n ≤ i
    simpa [rgD] using h'
theorem rgOk_ok {j : Int} (h : rgOk j = true) : -(2 ^ 62) ≤ j ∧ j < 2 ^ 62 := by
  unfold rgOk at h
  have h := Nat.ble_eq.mp (show Nat.ble (j.natAbs + 1) (2 ^ 61) = true from h)
  omega
theorem fi_rng1 {g : Am} {p : Pos} (hg : Gl X "range") (hm : X.mg "range" = none) (ha : FA X cm [a] g) (hs : starEach [a] X.env = [(false, eval a X.env)] := by rfl) : FI X cm tg (.Call (.Name "range" p) [a] [] pos) (iRng1 g) :=
  (pi_range1 hg hm ha hs).imp fun σ H R ⟨C, A, ρ, ds, ρ', RS0, q, k⟩ => by
    unfold iRng1 at q
    simp only [Option.bind_eq_some_iff] at q
    obtain ⟨⟨rs, ρ1⟩, h1, es, h2, h3⟩ := q
    refine ⟨C, A, ρ, rs, ρ1, RS0, h1, fun vs H1 A1 l1 R1 w1 => ?_⟩
    have r := pus_ok R1 w1 h2
    dsimp only at h3
    split at h3
    · split at h3
      · rename_i hz
        cases h3
        cases r with
        | cons r1 r => cases r with
          | nil =>
            cases r1
            exact ⟨_, rfl, (rgOk_ok hz).1, (rgOk_ok hz).2, k _ H1 A1 _ l1 R1 it_rng trivial⟩
      · cases h3
    · cases h3
theorem fi_rng2 {g : Am} {p : Pos} (hg : Gl X "range") (hm : X.mg "range" = none) (ha : FA X cm [a, b] g) (hs : starEach [a, b] X.env = [(false, eval a X.env), (false, eval b X.env)] := by rfl) (hs2 : starEach [b] X.env = [(false, eval b X.env)] := by rfl) :
    FI X cm tg (.Call (.Name "range" p) [a, b] [] pos) (iRng2 g) :=
  (pi_range2 hg hm ha hs hs2).imp fun σ H R ⟨C, A, ρ, ds, ρ', RS0, q, k⟩ => by
    unfold iRng2 at q
    simp only [Option.bind_eq_some_iff] at q
    obtain ⟨⟨rs, ρ1⟩, h1, es, h2, h3⟩ := q
    refine ⟨C, A, ρ, rs, ρ1, RS0, h1, fun vs H1 A1 l1 R1 w1 => ?_⟩
    have r := pus_ok R1 w1 h2
    dsimp only at h3
    split at h3
    · split at h3
      · rename_i hz
        rw [Bool.and_eq_true] at hz
        cases h3
        cases r with
        | cons r1 r => cases r with
          | cons r2 r => cases r with
            | nil =>
              cases r1; cases r2
              exact ⟨_, _, rfl, ⟨(rgOk_ok hz.1).1, (rgOk_ok hz.1).2, (rgOk_ok hz.2).1, (rgOk_ok hz.2).2⟩, k _ H1 A1 _ l1 R1 it_rng trivial⟩
      · cases h3
    · cases h3
/-- a list, a tuple, a text -/
def seqD : D → Option (List D)
  | .lst ds => some ds
  | .tup ds => some ds
  | .str s => some (s.map fun c => .str [c])
  | _ => none
def iSeq (f : Em) : Im := fun ρ => (f ρ).bind fun p => (pu p.2 p.1).bind fun d => (seqD d).map fun ds => (ds, p.2)
theorem it_lst {K : PySem.W.Frag} {a : Addr} {ds : List D} : ItOk K cm (Itl K a) (fun A H => ∃ xs, SL K A H a xs ∧ RpL K cm A H xs ds) ds where
  stay := fun _ _ _ _ ⟨xs, s, r⟩ l => ⟨xs, s.later l, r.later l⟩
  go := fun A H i ⟨xs, s, r⟩ h => by
    have h' : i < xs.length := by rw [r.length]; exact h
    exact ⟨xs, xs[i], s.sq, List.getElem?_eq_getElem h'⟩
  yld := fun A H i x H' d ⟨xs, s, r⟩ _ e hy => by
    obtain ⟨rfl, hx⟩ := hy
    obtain ⟨v, h1, h2⟩ := r.get e
    have := hx xs s.sq
    rw [h1] at this; cases this
    exact ⟨.refl _, h2⟩
  stop := fun A H i ⟨xs, s, r⟩ h => ⟨xs, s.sq, by rw [r.length]; exact h⟩
theorem it_tup {K : PySem.W.Frag} {a : Addr} {ds : List D} : ItOk K cm (Itt K a) (fun A H => ∃ xs, ST K A H a xs ∧ RpL K cm A H xs ds) ds where
  stay := fun _ _ _ _ ⟨xs, s, r⟩ l => ⟨xs, s.later l, r.later l⟩
  go := fun A H i ⟨xs, s, r⟩ h => by
    have h' : i < xs.length := by rw [r.length]; exact h
    exact ⟨xs, xs[i], s.sq, List.getElem?_eq_getElem h'⟩
  yld := fun A H i x H' d ⟨xs, s, r⟩ _ e hy => by
    obtain ⟨rfl, hx⟩ := hy
    obtain ⟨v, h1, h2⟩ := r.get e
    have := hx xs s.sq
    rw [h1] at this; cases this
    exact ⟨.refl _, h2⟩
  stop := fun A H i ⟨xs, s, r⟩ h => ⟨xs, s.sq, by rw [r.length]; exact h⟩
theorem it_str {K : PySem.W.Frag} {s : List Nat} : ItOk K cm (Its (S s)) (fun _ _ => True) (s.map fun c => .str [c]) where
  stay := fun _ _ _ _ _ _ => trivial
  go := fun A H i _ h => by
    show i < (S s).cps.size
    simpa [S] using h
  yld := fun A H i x H' d _ _ e hy => by
    obtain ⟨rfl, c, hc, rfl⟩ := hy
    simp only [List.getElem?_map, Option.map_eq_some_iff] at e
    obtain ⟨c', e1, rfl⟩ := e
    have : c = c' := by
      have h2 : (S s).cps[i]? = s[i]? := by simp [S]
      rw [h2, e1] at hc; cases hc; rfl
    subst this
    refine ⟨.refl _, ?_⟩
    exact .str [c]
  stop := fun A H i _ h => by
    show (S s).cps.size ≤ i
    simpa [S] using h
theorem fi_seq {f : Em} (h : FE X cm e f) : FI X cm tg e (iSeq f) := ((pi_list h).or ((pi_tup h).or (pi_str h))).imp fun σ H R ⟨C, A, ρ, ds, ρ', RS0, q, k⟩ => by
  unfold iSeq at q
  simp only [Option.bind_eq_some_iff, Option.map_eq_some_iff] at q
  obtain ⟨⟨r, ρ1⟩, h1, d, h2, ds', h3, h4⟩ := q
  cases h4
  cases d <;> (try cases h3)
  · -- a text
    refine .inr (.inr ⟨C, A, ρ, r, ρ1, RS0, h1, fun v H1 A1 l1 R1 w1 => ?_⟩)
    have rp := pu_ok R1 w1 h2
    cases rp
    exact ⟨_, rfl, k _ H1 A1 _ l1 R1 it_str trivial⟩
  · refine .inr (.inl ⟨C, A, ρ, r, ρ1, RS0, h1, fun v H1 A1 l1 R1 w1 => ?_⟩)
    have rp := pu_ok R1 w1 h2
    cases rp with
    | tup s rr => exact ⟨_, rfl, ⟨_, s.sq⟩, k _ H1 A1 _ l1 R1 it_tup ⟨_, s, rr⟩⟩
  · refine .inl ⟨C, A, ρ, r, ρ1, RS0, h1, fun v H1 A1 l1 R1 w1 => ?_⟩
    have rp := pu_ok R1 w1 h2
    cases rp with
    | lst s rr => exact ⟨_, rfl, ⟨_, s.sq⟩, k _ H1 A1 _ l1 R1 it_lst ⟨_, s, rr⟩⟩
end
end G

/-! Ly7: list comprehensions. -/
namespace G
open PySem PySem.Spec L2

theorem wipe_get (σ : L2.St) (j : Nat) : ∀ vs : List Nat, (wipe σ vs)[j]? = if j ∈ vs ∧ j < σ.length then some none else σ[j]?
  | [] => by simp [wipe]
  | v :: vs => by
    have ih := wipe_get σ j vs
    unfold wipe
    by_cases hj : v = j
    · subst hj
      by_cases hl : v < σ.length
      · rw [List.getElem?_set_self (by rw [wipe_length]; exact hl), if_pos ⟨by simp, hl⟩]
      · rw [List.getElem?_eq_none (by rw [List.length_set, wipe_length]; omega), if_neg (fun z => hl z.2), List.getElem?_eq_none (by omega)]
    · rw [List.getElem?_set_ne hj, ih]
      have : (j ∈ v :: vs) ↔ j ∈ vs := by simp [Ne.symm hj]
      simp only [this]
theorem wipe_same {σ σ' : L2.St} {vs : List Nat} (hl : σ'.length = σ.length) (h : ∀ j, j ∉ vs → σ'[j]? = σ[j]?) : wipe σ' vs = wipe σ vs := by
  refine List.ext_getElem? fun j => ?_
  rw [wipe_get, wipe_get, hl]
  by_cases hj : j ∈ vs
  · by_cases hk : j < σ.length
    · rw [if_pos ⟨hj, hk⟩, if_pos ⟨hj, hk⟩]
    · rw [if_neg (fun z => hk z.2), if_neg (fun z => hk z.2), List.getElem?_eq_none (by omega), List.getElem?_eq_none (by omega)]
  · rw [if_neg (fun z => hj z.1), if_neg (fun z => hj z.1), h j hj]
theorem wipe_wipe (σ : L2.St) (vs : List Nat) : wipe (wipe σ vs) vs = wipe σ vs := wipe_same (wipe_length σ vs) fun j hj => by rw [wipe_get, if_neg (fun z => hj z.1)]
/-- the slots of a block's own names emptied; they must hold nothing of one's own -/
def wipeS : List Nat → Rho → Option Rho
  | [], ρ => some ρ
  | i :: is, ρ => (wipeS is ρ).bind fun ρ' => match ρ'[i]? with
    | some .no => some (ρ'.set i .no)
    | some (.v (.p _)) => some (ρ'.set i .no)
    | _ => none
def back (ρ1 ρ2 : Rho) : List Nat → Rho
  | [] => ρ2
  | i :: is => match ρ1[i]? with
    | some s => (back ρ1 ρ2 is).set i s
    | none => back ρ1 ρ2 is
theorem back_length (ρ1 ρ2 : Rho) : ∀ is : List Nat, (back ρ1 ρ2 is).length = ρ2.length
  | [] => rfl
  | i :: is => by
    unfold back
    split
    · rw [List.length_set, back_length ρ1 ρ2 is]
    · exact back_length ρ1 ρ2 is
theorem back_get {ρ1 ρ2 : Rho} (hl : ρ1.length = ρ2.length) (j : Nat) : ∀ is : List Nat, (back ρ1 ρ2 is)[j]? = if j ∈ is then ρ1[j]? else ρ2[j]?
  | [] => by simp [back]
  | i :: is => by
    have ih := back_get hl j is
    unfold back
    split
    · rename_i s e
      by_cases hj : i = j
      · subst hj
        have hi : i < ρ1.length := (List.getElem?_eq_some_iff.mp e).1
        rw [List.getElem?_set_self (by rw [back_length]; omega), if_pos (by simp), e]
      · rw [List.getElem?_set_ne hj, ih]
        have : (j ∈ i :: is) ↔ j ∈ is := by simp [Ne.symm hj]
        simp only [this]
    · rename_i e
      rw [ih]
      by_cases hj : i = j
      · subst hj
        rw [if_pos (show i ∈ i :: is by simp), e]
        split
        · rfl
        · rw [List.getElem?_eq_none]
          have := List.getElem?_eq_none_iff.mp e
          omega
      · have : (j ∈ i :: is) ↔ j ∈ is := by simp [Ne.symm hj]
        simp only [this]
section
variable {K : PySem.W.Frag} {cm : Cm} {A A' : AS} {H H' : Hp} {C : Fc} {σ : L2.St} {ρ ρ' : Rho} {Y : List Addr}
theorem RS.clear {i : Nat} (R : RS K cm C A Y σ H ρ) (h : ρ[i]? = some .no ∨ ∃ d, ρ[i]? = some (.v (.p d))) : RS K cm C A Y (σ.set i none) H (ρ.set i .no) := by
  obtain ⟨F, h1, h2, h3, h4, h5⟩ := R.sl
  have hil : i < ρ.length := by
    rcases h with h | ⟨d, h⟩ <;> exact (List.getElem?_eq_some_iff.mp h).1
  have hF : F i = [] := by
    rcases h with h | ⟨d, h⟩
    · obtain ⟨o, _, r⟩ := h5 i _ h; exact r
    · obtain ⟨o, _, v, _, r, _⟩ := h5 i _ h; exact r.1
  refine ⟨by rw [List.length_set, List.length_set]; exact R.len, ⟨F, h1, h2, h3, fun j e => ?_, fun j s e => ?_⟩, R.out, R.sub, R.dom, R.fr, R.fd, R.tb, R.ne⟩
  · by_cases hj : j = i
    · rw [hj]; exact hF
    · rw [List.getElem?_set_ne (Ne.symm hj)] at e
      exact h4 j e
  · by_cases hj : j = i
    · subst hj
      rw [List.getElem?_set_self hil] at e; cases e
      exact ⟨none, by rw [List.getElem?_set_self (by rw [R.len]; exact hil)], hF⟩
    · rw [List.getElem?_set_ne (Ne.symm hj)] at e
      obtain ⟨o, e1, r⟩ := h5 j s e
      exact ⟨o, by rw [List.getElem?_set_ne (Ne.symm hj)]; exact e1, r⟩
theorem RS.wipe (R : RS K cm C A Y σ H ρ) : ∀ {is : List Nat} {ρ' : Rho}, wipeS is ρ = some ρ' → RS K cm C A Y (L2.wipe σ is) H ρ'
  | [], ρ', h => by cases h; exact R
  | i :: is, ρ', h => by
    simp only [wipeS, Option.bind_eq_some_iff] at h
    obtain ⟨ρ1, h1, h2⟩ := h
    have R1 := R.wipe h1
    split at h2
    · rename_i e; cases h2; exact R1.clear (.inl e)
    · rename_i e; cases h2; exact R1.clear (.inr ⟨_, e⟩)
    · cases h2
theorem wipeS_len : ∀ {is : List Nat} {ρ ρ' : Rho}, wipeS is ρ = some ρ' → ρ'.length = ρ.length
  | [], _, _, h => by cases h; rfl
  | i :: is, ρ, ρ', h => by
    simp only [wipeS, Option.bind_eq_some_iff] at h
    obtain ⟨ρ1, h1, h2⟩ := h
    have := wipeS_len h1
    split at h2
    · cases h2; rw [List.length_set, this]
    · cases h2; rw [List.length_set, this]
    · cases h2
theorem wipeS_pure : ∀ {is : List Nat} {ρ ρ' : Rho}, wipeS is ρ = some ρ' → ∀ j ∈ is, ρ[j]? = some .no ∨ ∃ d, ρ[j]? = some (.v (.p d))
  | [], _, _, _, j, m => nomatch m
  | i :: is, ρ, ρ', h, j, m => by
    simp only [wipeS, Option.bind_eq_some_iff] at h
    obtain ⟨ρ1, h1, h2⟩ := h
    by_cases hj : j ∈ is
    · exact wipeS_pure h1 j hj
    · obtain rfl : j = i := by
        rcases List.mem_cons.mp m with h | h
        · exact h
        · exact absurd h hj
      have e : ∀ {is : List Nat} {ρ ρ1 : Rho}, j ∉ is → wipeS is ρ = some ρ1 → ρ1[j]? = ρ[j]? := by
        intro is
        induction is with
        | nil => intro ρ ρ1 _ h; cases h; rfl
        | cons i is ih =>
          intro ρ ρ1 hn h
          simp only [wipeS, Option.bind_eq_some_iff] at h
          obtain ⟨ρ2, h1, h2⟩ := h
          simp only [List.mem_cons, not_or] at hn
          have := ih hn.2 h1
          split at h2
          · cases h2; rw [List.getElem?_set_ne (Ne.symm hn.1), this]
          · cases h2; rw [List.getElem?_set_ne (Ne.symm hn.1), this]
          · cases h2
      rw [← e hj h1]
      split at h2
      · rename_i q; exact .inl q
      · rename_i q; exact .inr ⟨_, q⟩
      · cases h2
/-- behind a block: the own names' slots as they were -/
theorem RS.back {ρ1 ρw ρ2 : Rho} {is : List Nat} {A1 : AS} {H1 : Hp} (R1 : RS K cm C A1 [] σ H1 ρ1) (hw : wipeS is ρ1 = some ρw) (l : Lt C A1 H1 A H) (R2 : RS K cm C A Y (L2.wipe σ is) H ρ2) : RS K cm C A Y σ H (back ρ1 ρ2 is) := by
  obtain ⟨F, h1, h2, h3, h4, h5⟩ := R2.sl
  obtain ⟨F1, _, _, _, g4, g5⟩ := R1.sl
  have hlen : ρ1.length = ρ2.length := by
    have a := R1.len
    have b := R2.len
    rw [wipe_length] at b
    omega
  have hlen1 := R1.len
  refine ⟨by rw [back_length]; omega, ⟨fun j => if j ∈ is then [] else F j, fun j => ?_, fun j k a m m' => ?_, fun j a m => ?_, fun j e => ?_, fun j s e => ?_⟩, R2.out, R2.sub, R2.dom, R2.fr, R2.fd, R2.tb, R2.ne⟩
  · dsimp only; split
    · exact .nil
    · exact h1 j
  · dsimp only at m m'
    split at m <;> split at m' <;> first | cases m | cases m' | exact h2 j k a m m'
  · dsimp only at m
    split at m
    · cases m
    · exact h3 j a m
  · dsimp only
    split
    · rfl
    · rename_i hj
      rw [back_get hlen, if_neg hj] at e
      exact h4 j e
  · dsimp only
    rw [back_get hlen] at e
    by_cases hj : j ∈ is
    · rw [if_pos hj] at e ⊢
      rcases wipeS_pure hw j hj with q | ⟨d, q⟩
      · rw [q] at e; cases e
        obtain ⟨o, e1, _⟩ := g5 j _ q
        exact ⟨o, e1, rfl⟩
      · rw [q] at e; cases e
        obtain ⟨o, e1, v, e2, r, _⟩ := g5 j _ q
        exact ⟨o, e1, v, e2, ⟨rfl, r.2.later l.l⟩, fun a m => nomatch m⟩
    · rw [if_neg hj] at e ⊢
      obtain ⟨o, e1, r⟩ := h5 j s e
      rw [wipe_get, if_neg (fun z => hj z.1)] at e1
      exact ⟨o, e1, r⟩
/-- a new list that grows is put with what the callers own -/
def Fc.plus (C : Fc) (p : Addr) : Fc := { C with A0 := fun a => C.A0 a ∨ a = p }
theorem RS.plus {p : Addr} (R : RS K cm C A [p] σ H ρ) (hp : A p) : RS K cm (C.plus p) A [] σ H ρ := by
  obtain ⟨F, h1, h2, h3, h4, h5⟩ := R.sl
  refine ⟨R.len, ⟨F, h1, h2, fun i a m => ⟨(h3 i a m).1, fun z => z.elim (h3 i a m).2.1 fun z => (h3 i a m).2.2 (by simp [z]), fun z => nomatch z⟩, h4, fun i s e => h5 i s e⟩, fun a z => z.elim (R.out a) fun z => by rw [z]; exact hp, fun a z => (R.sub a z).imp_left .inl, R.dom, R.fr, R.fd, R.tb, R.ne⟩
theorem RS.minus {p : Addr} (R : RS K cm (C.plus p) A [] σ H ρ) (h0 : C.H0 p = none) : RS K cm C A [p] σ H ρ := by
  obtain ⟨F, h1, h2, h3, h4, h5⟩ := R.sl
  refine ⟨R.len, ⟨F, h1, h2, fun i a m => ⟨(h3 i a m).1, fun z => (h3 i a m).2.1 (.inl z), fun z => (h3 i a m).2.1 (.inr (by simpa using z))⟩, h4, fun i s e => h5 i s e⟩, fun a z => R.out a (.inl z), fun a z => ?_, R.dom, R.fr, R.fd, R.tb, R.ne⟩
  rcases R.sub a z with (q | q) | q
  · exact .inl q
  · rw [q]; exact .inr (.inr h0)
  · exact .inr q
theorem RS.updOut {p : Addr} {o : HO} (R : RS K cm C A Y σ H ρ) (hA : A p) (h : C.A0 p) (h0 : C.H0 p = none) {u0 : HO} (hu : H p = some u0) (hpl : Pl u0) (ho : ∀ φ, o ≠ .ext φ := by intro _ z; cases z) : Later A H A (upd H p o) ∧ RS K cm C A Y σ (upd H p o) ρ := by
  have ne : ∀ a, ¬ A a → a ≠ p := fun a n z => n (by rw [z]; exact hA)
  have some' : ∀ a, H a ≠ none → upd H p o a ≠ none := fun a q => by
    by_cases e : a = p
    · rw [e, upd_same]; exact fun z => nomatch z
    · rw [upd_ne e]; exact q
  have l : Later A H A (upd H p o) := ⟨fun a u e _ n => by rw [upd_ne (ne a n)]; exact e, fun a z => .inl z, some'⟩
  refine ⟨l, ?_⟩
  obtain ⟨F, h1, h2, h3, h4, h5⟩ := R.sl
  refine ⟨R.len, ⟨F, h1, h2, h3, h4, fun i s e => ?_⟩, R.out, R.sub, fun a z => some' a (R.dom a z), fun a u e t n => ?_, fun a z => some' a (R.fd a z), tabs_upd R.tb hu hpl, fun a z φ e => by
    by_cases w : a = p
    · rw [w, upd_same] at e; exact ho φ (Option.some.inj e)
    · rw [upd_ne w] at e; exact R.ne a z φ e⟩
  · obtain ⟨u, e1, r⟩ := h5 i s e
    exact ⟨u, e1, r.keep l fun a m u q _ => by rw [upd_ne (fun z => (h3 i a m).2.1 (by rw [z]; exact h))]; exact q⟩
  · rw [upd_ne (fun z => by rw [z, h0] at e; cases e)]
    exact R.fr a u e t n
theorem Lt.of_plus {p : Addr} (l : Lt (C.plus p) A H A' H') : Lt C A H A' H' := ⟨l.l, fun a o z e t => l.o a o (.inl z) e t⟩
end
/-- a comprehension's turns, the own names' slots being empty ahead of each -/
def lcF (own : List Nat) (h : D → Rho → Option Rho) (ifs : Bm) (elt : Em) : List D → Rho → Option (List D × Rho)
  | [], ρ => some ([], ρ)
  | d :: ds, ρ => (h d ρ).bind fun ρ1 => (ifs ρ1).bind fun p => if p.1 then (elt p.2).bind fun q => (pu q.2 q.1).bind fun y => (wipeS own q.2).bind fun ρ3 => (lcF own h ifs elt ds ρ3).map fun r => (y :: r.1, r.2)
      else (wipeS own p.2).bind fun ρ3 => lcF own h ifs elt ds ρ3
def nLc (own : List Nat) (f : Im) (h : D → Rho → Option Rho) (ifs : Bm) (elt : Em) : Rho → Option (T × Rho) := fun ρ => (f ρ).bind fun p => if p.1.length ≤ big then (wipeS own p.2).bind fun ρw => (lcF own h ifs elt p.1 ρw).map fun r => (.ls r.1, back p.2 r.2 own) else none
def bYes : Bm := fun ρ => some (true, ρ)
section
variable {X : Cx} {cm : Cm} {pos : Pos} {elt tg iter e c : Expr} {ifs : List Expr}
abbrev FTs (X : Cx) (cm : Cm) (ifs : List Expr) (f : Bm) : Prop := PTs X ifs (tT X.K cm f)
theorem _root_.L2.PTs.imp {t t' : TT} (h : PTs X ifs t) (i : ∀ σ H Q, t' σ H Q → t σ H Q) : PTs X ifs t' := ⟨fun pins s σ H Q I q => h.run pins s σ H Q I (i σ H Q q)⟩
theorem fts_nil : FTs X cm [] bYes := pts_nil.imp fun σ H Q ⟨C, A, ρ, b, ρ', R, q, k⟩ => by
  cases q
  exact k H A (.refl A H) R
theorem fts_one {f : Bm} (h : FB X cm c f) : FTs X cm [c] f := pts_one h
theorem tLc_core {K : PySem.W.Frag} {wi : TI} {own is : List Nat} {ds all : List D} {h : D → Rho → Option Rho} {g : Bm} {el : Em} {σ : L2.St} {H : Hp} {Q : VK} {C : Fc} {A : AS} {ρ1 ρw ρ2 : Rho} (hsub : ∀ i ∈ is, i ∈ own)
    (hw : ∀ R' : It → Hp → Prop, (∀ J H1 A1 W, Lt C A H A1 H1 → RS K cm C A1 [] σ H1 ρ1 → ItOk K cm J W ds → W A1 H1 → R' J H1) → wi σ H R') (hbig : ds.length ≤ big) (h2 : wipeS own ρ1 = some ρw) (h3 : lcF own h g el ds ρw = some (all, ρ2))
    (k : ∀ v H' A' F, Lt C A H A' H' → RS K cm C A' F σ H' (back ρ1 ρ2 own) → RT K cm A' H' v (.ls all) F → F.Nodup → (∀ a ∈ F, C.H0 a = none ∧ A' a ∧ ¬ C.A0 a) → Q v H') : tLc wi (tG K cm is h) (tT K cm g) (tE K cm el) own σ H Q := by
  refine hw _ fun J H1 A1 W l1 R1 hJ w1 D hD => ?_
  obtain ⟨lD, RD, hF⟩ := own1 (o := .lst []) R1 hD
  have hA0 : ¬ C.A0 D := (hF D (by simp)).2.2
  have hH0 : C.H0 D = none := (hF D (by simp)).1
  have RW := (RD.plus (.inr rfl)).wipe h2
  refine ⟨fun i m Hc => m = ds.length - i ∧ i ≤ ds.length ∧ ∃ Ac ρc acc dacc ys, Lt C A1 H1 Ac Hc ∧ RS K cm (C.plus D) Ac [] (wipe σ own) Hc ρc ∧ W Ac Hc ∧ Hc D = some (.lst acc) ∧ RpL K cm Ac Hc acc dacc ∧ Ac D ∧ acc.length ≤ i ∧ lcF own h g el (ds.drop i) ρc = some (ys, ρ2) ∧ dacc ++ ys = all,
    ⟨ds.length, by simp, Nat.zero_le _, _, ρw, [], [], all, lD, RW, hJ.stay _ _ _ _ w1 lD.l, upd_same, .nil, .inr rfl, Nat.zero_le _, h3, rfl⟩, ?_⟩
  rintro i m Hc ⟨rfl, hi, Ac, ρc, acc, dacc, ys, lc, Rc, wc, hc, rc, hAc, hacc, qc, hall⟩
  by_cases hlt : i < ds.length
  · rw [drop_cons_of hlt] at qc
    simp only [lcF, Option.bind_eq_some_iff] at qc
    obtain ⟨ρ3, q3, ⟨b, ρ4⟩, q4, q5⟩ := qc
    refine .inr ⟨hJ.go Ac Hc i wc hlt, fun H' => i + 1 ≤ ds.length ∧ ∃ Ac ρc acc dacc ys, Lt C A1 H1 Ac H' ∧ RS K cm (C.plus D) Ac [] (wipe σ own) H' ρc ∧ W Ac H' ∧ H' D = some (.lst acc) ∧ RpL K cm Ac H' acc dacc ∧ Ac D ∧ acc.length ≤ i + 1 ∧ lcF own h g el (ds.drop (i + 1)) ρc = some (ys, ρ2) ∧ dacc ++ ys = all,
      fun H' h' => ⟨ds.length - (i + 1), by omega, rfl, h'⟩, fun x H3 hy => ?_⟩
    obtain ⟨g3, r3⟩ := hJ.yld Ac Hc i x H3 ds[i] wc Rc.dom (List.getElem?_eq_getElem hlt) hy
    have R3 := Rc.grow g3
    have l3 : Lt (C.plus D) Ac Hc Ac H3 := .same g3
    refine ⟨C.plus D, Ac, ρc, ds[i], ρ3, R3, r3, q3, fun σ2 H4 A4 l4 R4 el2 fe2 => ⟨?_, C.plus D, A4, ρ3, b, ρ4, R4, q4, fun H5 A5 l5 R5 => ?_⟩⟩
    · rw [← wipe_wipe σ own]
      exact wipe_same el2 fun j hj => fe2 j fun z => hj (hsub j z)
    have hw2 : wipe σ2 own = wipe σ own := by
      rw [← wipe_wipe σ own]
      exact wipe_same el2 fun j hj => fe2 j fun z => hj (hsub j z)
    cases b with
    | false =>
      simp only [Bool.false_eq_true, if_false, Option.bind_eq_some_iff] at q5
      obtain ⟨ρ5, q6, q7⟩ := q5
      have R6 := R5.wipe q6
      rw [hw2] at R6
      have l35 := (l3.trans l4).trans l5
      exact iteF ⟨hlt, A5, ρ5, acc, dacc, ys, lc.trans l35.of_plus, R6, hJ.stay _ _ _ _ wc l35.l, l35.o D _ (.inr rfl) hc pl_lst.1, rc.later l35.l, R5.out D (.inr rfl), by omega, q7, hall⟩
    | true =>
      simp only [if_true, Option.bind_eq_some_iff, Option.map_eq_some_iff] at q5
      obtain ⟨⟨r, ρ5⟩, q6, y, q7, ρ6, q8, ⟨ys', ρ7⟩, q9, q10⟩ := q5
      cases q10
      refine iteT ⟨C.plus D, A5, ρ4, r, ρ5, R5, q6, fun v H6 A6 l6 R6 w6 => ?_⟩
      have l36 := ((l3.trans l4).trans l5).trans l6
      have hD6 := l36.o D _ (.inr rfl) hc pl_lst.1
      have ry := pu_ok R6 w6 q7
      have hA6 := R6.out D (.inr rfl)
      obtain ⟨lu, Ru⟩ := R6.updOut (o := .lst (acc ++ [v])) hA6 (.inr rfl) hH0 hD6 pl_lst
      have Ruw := Ru.wipe q8
      rw [hw2] at Ruw
      have lt : Lt C A1 H1 A6 (upd H6 D (.lst (acc ++ [v]))) := (lc.trans l36.of_plus).trans ⟨lu, fun a o z e _ => by rw [upd_ne (fun w => hA0 (by rw [← w]; exact z))]; exact e⟩
      refine ⟨acc, hD6, Nat.lt_of_le_of_lt hacc (big_lt (by omega)), hlt, A6, ρ6, acc ++ [v], dacc ++ [y], ys', lt, Ruw, hJ.stay _ _ _ _ (hJ.stay _ _ _ _ wc l36.l) lu, upd_same, ((rc.later l36.l).later lu).app (.one (ry.later lu)), hA6, by rw [List.length_append]; simpa using hacc, q9, by rw [List.append_assoc]; exact hall⟩
  · rw [List.drop_of_length_le (by omega)] at qc
    cases qc
    refine .inl ⟨hJ.stop Ac Hc i wc (by omega), ?_⟩
    rw [List.append_nil] at hall
    subst hall
    refine k _ Hc Ac [D] (l1.trans lc) (RS.back R1 h2 lc (Rc.minus hH0)) ⟨D, acc, rfl, rfl, hc, rc⟩ (by simp) fun a m => ?_
    obtain rfl : a = D := by simpa using m
    exact ⟨hH0, hAc, hA0⟩
theorem tLc_of {K : PySem.W.Frag} {own is : List Nat} {f : Im} {h : D → Rho → Option Rho} {g : Bm} {el : Em} {σ : L2.St} {H : Hp} {Q : VK} (hsub : ∀ i ∈ is, i ∈ own) (hh : tN K cm (nLc own f h g el) σ H Q) : tLc (tI K cm f) (tG K cm is h) (tT K cm g) (tE K cm el) own σ H Q := by
  obtain ⟨C, A, ρ, t, ρ', R, q, k⟩ := hh
  unfold nLc at q
  rw [Option.bind_eq_some_iff] at q
  obtain ⟨⟨ds, ρ1⟩, h1, q⟩ := q
  dsimp only at q
  split at q
  rotate_left
  · cases q
  rename_i hbig
  simp only [Option.bind_eq_some_iff, Option.map_eq_some_iff] at q
  obtain ⟨ρw, h2, ⟨all, ρ2⟩, h3, h4⟩ := q
  cases h4
  exact tLc_core hsub (fun R' hR => ⟨C, A, ρ, ds, ρ1, R, h1, hR⟩) hbig h2 h3 k
theorem fn_lc {own : List (Str × Nat)} {scope : Scope} {is : List Nat} {f : Im} {h : D → Rho → Option Rho} {g : Bm} {el : Em} (hc : X.calm = true) (hN : X.N.Nodup) (hi : FI X cm tg iter f) (ok : BlkOk X.N X.env.scope scope own)
    (hg : ∀ (s : Shared) (H : Hp) (C : Addr) (cl : List (Str × Addr)) (fp : List Addr), FG (X.blk s H scope (compEnvC scope cl C X.env) fp) cm tg is h) (ht : ∀ (s : Shared) (H : Hp) (C : Addr) (cl : List (Str × Addr)) (fp : List Addr), FTs (X.blk s H scope (compEnvC scope cl C X.env) fp) cm ifs g)
    (he : ∀ (s : Shared) (H : Hp) (C : Addr) (cl : List (Str × Addr)) (fp : List Addr), FE (X.blk s H scope (compEnvC scope cl C X.env) fp) cm elt el) (hsub : ∀ i ∈ is, i ∈ own.map (·.2)) (hs : ∀ x, foldedSetIterable iter X.env x = pure x := by intro _; rfl) :
    FN X cm (.ListComp elt [⟨tg, iter, ifs, 0⟩] scope pos) (nLc (own.map (·.2)) f h g el) :=
  (pe_lc hc hN hi ok hg ht he hs).imp fun σ H Q q => tLc_of hsub q
/-- name = [..] on one line -/
theorem fs_setLc {i : Nat} {y : Str} {py spos : Pos} {own : List (Str × Nat)} {scope : Scope} {is : List Nat} {f : Im} {h : D → Rho → Option Rho} {g : Bm} {el : Em} (hc : X.calm = true) (hN : X.N.Nodup) (hy : X.N[i]? = some y) (hyl : X.env.scope.names.lookup y = some .local)
    (hsw : swapsWith (.ListComp elt [⟨tg, iter, ifs, 0⟩] scope pos) (some (.Name y py)) spos.line X.env = pure true) (hi : FI X cm tg iter f) (ok : BlkOk X.N X.env.scope scope own)
    (hg : ∀ (s : Shared) (H : Hp) (C : Addr) (cl : List (Str × Addr)) (fp : List Addr), FG (X.blk s H scope (compEnvC scope cl C X.env) fp) cm tg is h) (ht : ∀ (s : Shared) (H : Hp) (C : Addr) (cl : List (Str × Addr)) (fp : List Addr), FTs (X.blk s H scope (compEnvC scope cl C X.env) fp) cm ifs g)
    (he : ∀ (s : Shared) (H : Hp) (C : Addr) (cl : List (Str × Addr)) (fp : List Addr), FE (X.blk s H scope (compEnvC scope cl C X.env) fp) cm elt el) (hsub : ∀ i ∈ is, i ∈ own.map (·.2)) (hs : ∀ x, foldedSetIterable iter X.env x = pure x := by intro _; rfl) :
    FS X cm (.Assign [.Name y py] (.ListComp elt [⟨tg, iter, ifs, 0⟩] scope pos) spos) (sAsg i (nLc (own.map (·.2)) f h g el)) :=
  (ps_setLc hc hN hy hyl hsw hi ok hg ht he hs).imp fun D σ H q => tLc_of hsub (sAsg_of q)
end
end G

/-! Ly8: defs and their calls. -/
namespace G
open PySem PySem.Spec L2
open PyProof.Rows (envOfC)

section
variable {K : PySem.W.Frag} {cm : Cm} {A A' : AS} {H H' : Hp} {C : Fc} {σ : L2.St} {ρ ρ' : Rho} {Y : List Addr}
theorem RS.ext (m : Nat) (R : RS K cm C A Y σ H ρ) : RS K cm C A Y (σ ++ List.replicate m none) H (ρ ++ List.replicate m .no) := by
  obtain ⟨F, h1, h2, h3, h4, h5⟩ := R.sl
  have hl := R.len
  refine ⟨by simp [hl], ⟨F, h1, h2, h3, fun j e => ?_, fun j s e => ?_⟩, R.out, R.sub, R.dom, R.fr, R.fd, R.tb, R.ne⟩
  · refine h4 j ?_
    rw [List.getElem?_eq_none_iff] at e ⊢
    rw [List.length_append] at e
    omega
  · by_cases hj : j < ρ.length
    · rw [List.getElem?_append_left hj] at e
      obtain ⟨o, e1, r⟩ := h5 j s e
      exact ⟨o, by rw [List.getElem?_append_left (by omega)]; exact e1, r⟩
    · rw [List.getElem?_append_right (by omega), List.getElem?_replicate] at e
      split at e
      · rename_i hm
        cases e
        refine ⟨none, ?_, h4 j (List.getElem?_eq_none (by omega))⟩
        rw [List.getElem?_append_right (by omega), List.getElem?_replicate, if_pos (by omega)]
      · cases e
theorem RS.take (n : Nat) (R : RS K cm C A Y σ H ρ) : RS K cm C A Y (σ.take n) H (ρ.take n) := by
  obtain ⟨F, h1, h2, h3, h4, h5⟩ := R.sl
  have hl := R.len
  refine ⟨by simp [hl], ⟨fun j => if j < n then F j else [], fun j => ?_, fun j k a m m' => ?_, fun j a m => ?_, fun j e => ?_, fun j s e => ?_⟩, R.out, R.sub, R.dom, R.fr, R.fd, R.tb, R.ne⟩
  · dsimp only; split
    · exact h1 j
    · exact .nil
  · dsimp only at m m'
    split at m <;> split at m' <;> first | cases m | cases m' | exact h2 j k a m m'
  · dsimp only at m
    split at m
    · exact h3 j a m
    · cases m
  · dsimp only
    split
    · rename_i hj
      refine h4 j ?_
      rw [List.getElem?_take, if_pos hj] at e
      exact e
    · rfl
  · dsimp only
    by_cases hj : j < n
    · rw [List.getElem?_take, if_pos hj] at e
      obtain ⟨o, e1, r⟩ := h5 j s e
      rw [if_pos hj]
      exact ⟨o, by rw [List.getElem?_take, if_pos hj]; exact e1, r⟩
    · rw [List.getElem?_take, if_neg hj] at e; cases e
end
/-- a def: its body at the parameters -/
def runD (m : Nat) (g : Sm) : Rho → Option (T × Rho) := fun ss => (g (ss ++ List.replicate m .no)).bind fun o => match o with
  | .rt t ρ => some (t, ρ.take ss.length)
  | .nx ρ => some (.p .non, ρ.take ss.length)
  | _ => none
def cIn (H : Hp) (P : AS) (A : AS) (vs : List V) : Fc := ⟨H, P, fun a => A a ∧ ¬ P a, fun i => vs[i]?⟩
/-- the promise of a def -/
def spG (K : PySem.W.Frag) (cm : Cm) (n : Nat) (f : Rho → Option (T × Rho)) : Sp := fun vs H Q _ => vs.length = n ∧ ∃ P A ss t ss', RS K cm (cIn H P A vs) A [] (vs.map some) H ss ∧ f ss = some (t, ss') ∧
  ∀ v H' A' F σ', Lt (cIn H P A vs) A H A' H' → RS K cm (cIn H P A vs) A' F σ' H' ss' → RT K cm A' H' v t F → F.Nodup → (∀ a ∈ F, H a = none ∧ A' a ∧ ¬ (cIn H P A vs).A0 a) → Q v H'
abbrev FnG (P : Program) (w : World) (K : PySem.W.Frag) (mg : Str → Option Value) (base : Heap) (cm : Cm) (k : Nat) (f : Addr) (fd : FuncData) (ps : List Str) (g : Rho → Option (T × Rho)) : Prop := FnOk P w K mg base CX0 k f fd ps (spG K cm ps.length g)
section
variable {P : Program} {w : World} {K : PySem.W.Frag} {mg : Str → Option Value} {base : Heap} {cm : Cm}
theorem fd_ok {x qual : Str} {st : Stmt} {f : Addr} {fd : FuncData} {N ps : List Str} {k : Nat} {g : Sm} (F : Fun K x qual st f fd) (S : FnScope N ps (defScope st))
    (hb : ∀ (cdv : Value) (A : Around) (outer : List Env) (s : Shared) (H : Hp) (E : XK), Room k (A.deeper (envOfC qual (defScope st) s.heap.objs.size f cdv)) → FSs (cxOf CX0 P w K mg base N qual (defScope st) f cdv A outer s H E).nox cm (defBody st) g) :
    FnG P w K mg base cm (k + 1) f fd ps (runD (N.length - ps.length) g) := by
  refine F.ok S (fun vs H Q E h => h.1) fun cdv A outer s H vs Q E hr ⟨hl, Pw, A', ss, t, ss', R, q, kk⟩ => ⟨_, hb cdv A outer s H E hr, ?_⟩
  unfold runD at q
  rw [Option.bind_eq_some_iff] at q
  obtain ⟨o, q1, q2⟩ := q
  have hs : ss.length = vs.length := by have := R.len; simpa using this.symm
  have R0 := R.ext (N.length - vs.length)
  rw [← hl] at q1
  refine ⟨_, A', _, o, R0, q1, ?_⟩
  cases o with
  | nx ρ =>
    cases q2
    exact fun σ1 H1 A1 l1 R1 => kk _ H1 A1 [] _ l1 (R1.take ss.length) (RT.pure .non) .nil fun a m => nomatch m
  | rt t' ρ =>
    cases q2
    exact fun v σ1 H1 A1 F l1 R1 rt hn hF => kk v H1 A1 F _ l1 (R1.take ss.length) rt hn hF
  | bk ρ => cases q2
  | ct ρ => cases q2
/-- a def of which nothing is told -/
theorem fd_none {f : Addr} {fd : FuncData} {ps : List Str} {k : Nat} : FnG P w K mg base cm k f fd ps (fun _ => none) :=
  ⟨fun vs H Q E h => h.1, fun A outer s H args us vs Q E _ _ _ _ ⟨_, _, _, _, _, _, _, q, _⟩ => nomatch q⟩
theorem FnG.imp {f : Addr} {fd : FuncData} {ps : List Str} {k : Nat} {g g' : Rho → Option (T × Rho)} (F : FnG P w K mg base cm k f fd ps g) (h : ∀ ss t, g' ss = some t → g ss = some t) : FnG P w K mg base cm k f fd ps g' :=
  FnOk.imp F fun vs H Q E ⟨hl, Pw, A', ss, t, ss', R, q, kk⟩ => ⟨hl, Pw, A', ss, t, ss', R, h _ _ q, kk⟩
end

/-! ### calls with arguments that nobody changes -/
def slP (ds : List D) : Rho := ds.map fun d => .v (.p d)
theorem slP_length (ds : List D) : (slP ds).length = ds.length := by simp [slP]
section
variable {X : Cx} {cm : Cm} {pos p : Pos} {e : Expr} {es : List Expr}
theorem RS.args {K : PySem.W.Frag} {C : Fc} {A : AS} {σ : L2.St} {H : Hp} {ρ : Rho} {vs : List V} {ds : List D} (R : RS K cm C A [] σ H ρ) (r : RpL K cm A H vs ds) : RS K cm (cIn H (fun _ => False) A vs) A [] (vs.map some) H (slP ds) := by
  refine ⟨by rw [List.length_map, slP_length, r.length], ⟨fun _ => [], fun _ => .nil, fun _ _ _ m => (nomatch m), fun _ _ m => (nomatch m), fun _ _ => rfl, fun i s e => ?_⟩, fun a z => z.1, fun a z => .inl ⟨z, id⟩, R.dom, fun _ _ e _ _ => e, fun _ e => e, R.tb, R.ne⟩
  simp only [slP, List.getElem?_map, Option.map_eq_some_iff] at e
  obtain ⟨d, e1, rfl⟩ := e
  obtain ⟨v, e2, r2⟩ := r.get e1
  exact ⟨some v, by rw [List.getElem?_map, e2]; rfl, v, rfl, RT.pure r2, fun a m => nomatch m⟩
/-- behind such a call: the caller's state -/
theorem RS.after {K : PySem.W.Frag} {C : Fc} {A A' : AS} {σ σ' : L2.St} {H H' : Hp} {ρ ss : Rho} {vs : List V} {F : List Addr} (R : RS K cm C A [] σ H ρ) (l : Lt (cIn H (fun _ => False) A vs) A H A' H') (R' : RS K cm (cIn H (fun _ => False) A vs) A' F σ' H' ss)
    (hF : ∀ a ∈ F, H a = none ∧ A' a ∧ ¬ (cIn H (fun _ => False) A vs).A0 a) : Lt C A H A' H' ∧ RS K cm C A' F σ H' ρ ∧ ∀ a ∈ F, C.H0 a = none ∧ A' a ∧ ¬ C.A0 a := by
  have kept : ∀ a o, A a → H a = some o → NT o → H' a = some o := fun a o z e t => l.o a o ⟨z, id⟩ e t
  have inA : ∀ a, A a → A' a := fun a z => R'.out a ⟨z, id⟩
  refine ⟨⟨l.l, fun a o z e t => kept a o (R.out a z) e t⟩, ?_, fun a m => ⟨R.new0 (hF a m).1, (hF a m).2.1, fun z => (hF a m).2.2 ⟨R.out a z, id⟩⟩⟩
  obtain ⟨Fs, h1, h2, h3, h4, h5⟩ := R.sl
  refine ⟨R.len, ⟨Fs, h1, h2, fun i a m => ⟨inA a (h3 i a m).1, (h3 i a m).2.1, fun z => R.dom a (h3 i a m).1 (hF a z).1⟩, h4, fun i s e => ?_⟩, fun a z => inA a (R.out a z), fun a z => ?_, R'.dom, fun a o e t n => R'.fr a o (R.fr a o e t n) t id, fun a z => R'.fd a (R.fd a z), R'.tb, R'.ne⟩
  · obtain ⟨o, e1, r⟩ := h5 i s e
    exact ⟨o, e1, r.keep l.l fun a m o q t => kept a o (h3 i a m).1 q t⟩
  · rcases R'.sub a z with q | q | q
    · exact R.sub a q.1
    · exact q.elim
    · exact .inr (.inr (R.new0 q))
def nCall (n : Nat) (f : Rho → Option (T × Rho)) (g : Am) : Rho → Option (T × Rho) := fun ρ => (g ρ).bind fun p => (pus p.2 p.1).bind fun ds => if ds.length = n then (f (slP ds)).map fun r => (r.1, p.2) else none
theorem spG_of {K : PySem.W.Frag} {f : Rho → Option (T × Rho)} {C : Fc} {A : AS} {σ : L2.St} {H : Hp} {ρ : Rho} {vs : List V} {ds : List D} {n : Nat} {t : T} {ss' : Rho} {Q : VK} {E : XK} (R : RS K cm C A [] σ H ρ) (r : RpL K cm A H vs ds) (hn : ds.length = n) (q : f (slP ds) = some (t, ss'))
    (k : ∀ v H' A' F, Lt C A H A' H' → RS K cm C A' F σ H' ρ → RT K cm A' H' v t F → F.Nodup → (∀ a ∈ F, C.H0 a = none ∧ A' a ∧ ¬ C.A0 a) → Q v H') : spG K cm n f vs H Q E := by
  refine ⟨by rw [r.length, hn], fun _ => False, A, slP ds, t, ss', R.args r, q, fun v H' A' F σ' l R' rt hnd hF => ?_⟩
  obtain ⟨l', R2, hF'⟩ := R.after l R' hF
  exact k v H' A' F l' R2 rt hnd hF'
/-- a def that stands at its name -/
def Dg (P : Program) (w : World) (K : PySem.W.Frag) (mg : Str → Option Value) (base : Heap) (cm : Cm) (k : Nat) (x : Str) (ps : List Str) (m : Rho → Option (T × Rho)) : Prop :=
  ∃ f fd, FnG P w K mg base cm k f fd ps m ∧ mg x = some (.ref f) ∧ PySem.W.keepIn K (.ref f) = true ∧ Binds K fd ps []
theorem tN_call {K : PySem.W.Frag} {n : Nat} {m : Rho → Option (T × Rho)} {g : Am} {σ : L2.St} {H : Hp} {Q : VK} {E : XK} (h : tN K cm (nCall n m g) σ H Q) : tCall (spG K cm n m) [] E (tAs K cm g) σ H Q := by
  obtain ⟨C, A, ρ, t, ρ', R, q, kk⟩ := h
  unfold nCall at q
  simp only [Option.bind_eq_some_iff] at q
  obtain ⟨⟨rs, ρ1⟩, h1, ds, h2, h3⟩ := q
  dsimp only at h3
  split at h3
  rotate_left
  · cases h3
  rename_i hn
  simp only [Option.map_eq_some_iff] at h3
  obtain ⟨⟨t', ss'⟩, h4, h5⟩ := h3
  cases h5
  refine ⟨C, A, ρ, rs, _, R, h1, fun vs H1 A1 l1 R1 w1 => ?_⟩
  show spG K cm n m (vs ++ []) H1 Q E
  rw [List.append_nil]
  exact spG_of R1 (pus_ok R1 w1 h2) hn h4 fun v H' A' F l R2 rt hnd hF => kk v H' A' F (l1.trans l) R2 rt hnd hF
theorem fn_call {ps : List Str} {k j n : Nat} {x : Str} {m : Rho → Option (T × Rho)} {g : Am} (D : Dg X.prog X.w X.K X.mg X.base cm k x ps m) (hr : Room j X.A) (hk : k ≤ j) (hg : Gl X x) (ha : FA X cm (e :: es) g) (hn : ps.length = n := by rfl)
    (hdb : (x == ("__debug__" : Str)) = false := by decide) (he : starEach (e :: es) X.env = (false, eval e X.env) :: starEach es X.env := by rfl) (hpl : (backTo pos (starEach es X.env)).any (·.1) = false := by rfl) :
    FN X cm (.Call (.Name x p) (e :: es) [] pos) (nCall n m g) := by
  subst hn
  obtain ⟨f, fd, F, hm, hkp, hb⟩ := D
  exact (pe_call F (hr.mono hk) hg hm hkp hb .nil pass0 ha hdb he hpl).imp fun σ H Q q => tN_call q
theorem fn_call0 {k j : Nat} {x : Str} {m : Rho → Option (T × Rho)} (D : Dg X.prog X.w X.K X.mg X.base cm k x [] m) (hr : Room j X.A) (hk : k ≤ j) (hg : Gl X x) (hdb : (x == ("__debug__" : Str)) = false := by decide) :
    FN X cm (.Call (.Name x p) [] [] pos) (nCall 0 m aNil) := by
  obtain ⟨f, fd, F, hm, hkp, hb⟩ := D
  refine (pe_call0 F (hr.mono hk) hg hm hkp hb .nil pass0 hdb).imp fun σ H Q q => ?_
  have q' := tN_call (E := E0) q
  obtain ⟨C, A, ρ, rs, ρ', R, h1, h2⟩ := q'
  cases h1
  exact h2 [] H A (.refl A H) R .nil
end
end G

/-! Ly9: items, slices, built-in functions, methods; stores into what one owns. -/
namespace G
open PySem PySem.Spec L2

/-! ### items -/
def lookK {κ : Type} [DecidableEq κ] (kvs : List (κ × D)) (k : κ) : Option D := (kvs.find? fun kv => decide (kv.1 = k)).map (·.2)
def cIx : D → D → Option D
  | .lst ds, .int i => atI ds i
  | .tup ds, .int i => atI ds i
  | .str s, .int i => if s.length ≤ big then (atI s i).map fun c => .str [c] else none
  | .dic kvs, .int n => lookK kvs (.i n)
  | .dic kvs, .str t => lookK kvs (.s t)
  | _, _ => none
section
variable {K : PySem.W.Frag} {cm : Cm} {A : AS} {H : Hp}
theorem RpL.atI {xs : List V} {ds : List D} {i : Int} {d : D} (r : RpL K cm A H xs ds) (e : L2.atI ds i = some d) : ∃ v, L2.atI xs i = some v ∧ Rp K cm A H v d := by
  unfold L2.atI at e ⊢
  rw [r.length]
  cases q : ixN ds.length i with
  | none => rw [q] at e; cases e
  | some j =>
    rw [q] at e
    exact r.get e
theorem RpK.look {k : DK} : ∀ {ks : List (Key × V)} {kvs : List (DK × D)} {d : D}, RpK K cm A H ks kvs → lookK kvs k = some d → ∃ v, valV ks k.k = some v ∧ Rp K cm A H v d
  | _, _, _, .nil, e => by cases e
  | _, _, d, .cons (k := k') (d := d') h r, e => by
    by_cases q : k' = k
    · subst q
      unfold lookK at e
      rw [List.find?_cons_of_pos (by simp)] at e
      cases e
      exact ⟨_, by unfold valV; rw [List.find?_cons_of_pos (by simp)]; rfl, h⟩
    · unfold lookK at e
      rw [List.find?_cons_of_neg (by simpa using q)] at e
      obtain ⟨v, e1, e2⟩ := RpK.look r e
      refine ⟨v, ?_, e2⟩
      unfold valV
      rw [List.find?_cons_of_neg (by simpa using fun z => q (DK.k_inj z))]
      exact e1
theorem RpK.lookN {k : DK} : ∀ {ks : List (Key × V)} {kvs : List (DK × D)}, RpK K cm A H ks kvs → lookK kvs k = none → valV ks k.k = none
  | _, _, .nil, e => rfl
  | _, _, .cons (k := k') (d := d') h r, e => by
    by_cases q : k' = k
    · subst q
      unfold lookK at e
      rw [List.find?_cons_of_pos (by simp)] at e
      cases e
    · unfold lookK at e
      rw [List.find?_cons_of_neg (by simpa using q)] at e
      unfold valV
      rw [List.find?_cons_of_neg (by simpa using fun z => q (DK.k_inj z))]
      exact RpK.lookN r e
end
section
variable {X : Cx} {cm : Cm} {pos : Pos} {e a b c : Expr} {es : List Expr}
/-- an operator's rule at these data -/
theorem tOp_at {K : PySem.W.Frag} {r : R2} {f g : Em} {σ : L2.St} {H : Hp} {Q : VK} {C : Fc} {A : AS} {ρ ρ1 ρ2 : Rho} {p q : RV} {x y z : D} (R : RS K cm C A [] σ H ρ) (h1 : f ρ = some (p, ρ1)) (h2 : g ρ1 = some (q, ρ2)) (h3 : rd ρ2 p = some x) (h4 : rd ρ2 q = some y)
    (k : ∀ v H' A', Lt C A H A' H' → RS K cm C A' [] σ H' ρ2 → RRV K cm A' H' σ v (.val z) → Q v H')
    (hr : ∀ A H vx vy (Q : VK), (∀ a, A a → H a ≠ none) → Ro K cm A H vx x → Ro K cm A H vy y → (∀ z' H', Same H H' → Rp K cm A H' z' z → Q z' H') → r vx vy H Q) : tOp r (tE K cm f) (tE K cm g) σ H Q := by
  refine ⟨C, A, ρ, p, ρ1, R, h1, fun v1 H1 A1 l1 R1 w1 => ⟨C, A1, ρ1, q, ρ2, R1, h2, fun v2 H2 A2 l2 R2 w2 => ?_⟩⟩
  refine hr A2 H2 v1 v2 Q R2.dom (rd_ok R2 (w1.later l2) h3) (rd_ok R2 w2 h4) fun z' H' g rz => ?_
  exact k z' H' A2 ((l1.trans l2).trans (.same g)) (R2.grow g) rz
def eIx (f g : Em) : Em := eOp cIx f g
theorem fe_ix {f g : Em} (hu : X.A.units + 1 < cLine) (ha : FE X cm a f) (hb : FE X cm b g) (hs : PlainIx b := by exact fun _ _ => rfl) (hs2 : NoSl b := by exact fun _ _ => rfl) : FE X cm (.Subscript a b pos) (eIx f g) :=
  ((pe_ix ix_seq ha hb hs).or (pe_dget hu ha hb hs2)).imp fun σ H Q ⟨C, A, ρ, t, ρ', R, q, k⟩ => by
    obtain ⟨p, ρ1, r, x, y, z, h1, h2, h3, h4, h5, rfl⟩ := eOp_some q
    cases x with
    | lst ds =>
      cases y <;> (try cases h5)
      refine .inl (tOp_at R h1 h2 h3 h4 k fun A H vx vy Q hd hx hy kk => .inl ?_)
      cases hy.int
      obtain ⟨a, xs, rfl, hl, rl⟩ := hx.ls
      obtain ⟨v, e1, e2⟩ := rl.atI h5
      exact ⟨a, xs, _, v, rfl, rfl, hl, e1, kk _ H (.refl H) e2⟩
    | tup ds =>
      cases y <;> (try cases h5)
      refine .inl (tOp_at R h1 h2 h3 h4 k fun A H vx vy Q hd hx hy kk => .inr (.inl ?_))
      cases hy.int
      obtain ⟨a, xs, rfl, hl, rl⟩ := hx.tup
      obtain ⟨v, e1, e2⟩ := rl.atI h5
      exact ⟨a, xs, _, v, rfl, rfl, hl, e1, kk _ H (.refl H) e2⟩
    | str s =>
      cases y <;> (try cases h5)
      refine .inl (tOp_at R h1 h2 h3 h4 k fun A H vx vy Q hd hx hy kk => .inr (.inr ?_))
      cases hy.int
      cases hx.str
      simp only [cIx] at h5
      split at h5
      · rename_i hz
        rw [Option.map_eq_some_iff] at h5
        obtain ⟨c, e1, rfl⟩ := h5
        exact ⟨S s, _, c, rfl, rfl, big_le (by rw [S_len]; exact hz), by rw [S_cps]; exact e1, kk _ H (.refl H) (.str [c])⟩
      · cases h5
    | dic kvs =>
      refine .inr ?_
      show tOp (fun x y H Q => ∃ a v, x = .ref a ∧ DGet H a y (some v) ∧ Q v H) (tE X.K cm f) (tE X.K cm g) σ H Q
      refine tOp_at R h1 h2 h3 h4 k fun A H vx vy Q hd hx hy kk => ?_
      obtain ⟨a, ks, rfl, hl, rl⟩ := hx.di
      cases y <;> (try cases h5)
      · cases hy.int
        obtain ⟨v, e1, e2⟩ := rl.look h5
        exact ⟨a, v, rfl, .inl ⟨ks, _, hl, rfl, e1.symm⟩, kk _ H (.refl H) e2⟩
      · cases hy.str
        obtain ⟨v, e1, e2⟩ := rl.look h5
        exact ⟨a, v, rfl, .inl ⟨ks, _, hl, rfl, e1.symm⟩, kk _ H (.refl H) e2⟩
    | _ => cases h5

/-! ### slices -/
def cutD {α : Type} (xs : List α) (lo hi : Option Int) : List α := (xs.drop (HT.sIx xs.length 0 lo)).take (HT.sIx xs.length xs.length hi - HT.sIx xs.length 0 lo)
def cSl (d : D) (lo hi : Option Int) : Option D := match d with
  | .lst ds => some (.lst (cutD ds lo hi))
  | .tup ds => some (.tup (cutD ds lo hi))
  | .str s => if s.length ≤ big then some (.str (cutD s lo hi)) else none
  | _ => none
abbrev Om := Rho → Option (Option Int × Rho)
def oNone : Om := fun ρ => some (none, ρ)
def oSome (f : Em) : Om := fun ρ => (f ρ).bind fun p => match rd p.2 p.1 with
  | some (.int i) => some (some i, p.2)
  | _ => none
def tO (K : PySem.W.Frag) (cm : Cm) (f : Om) : TO := fun σ H Q => ∃ C A ρ o ρ', RS K cm C A [] σ H ρ ∧ f ρ = some (o, ρ') ∧ ∀ H' A', Lt C A H A' H' → RS K cm C A' [] σ H' ρ' → Q o H'
theorem _root_.L2.PO.imp {e : Option Expr} {t t' : TO} (h : PO X e t) (i : ∀ σ H Q, t' σ H Q → t σ H Q) : PO X e t' := ⟨fun pins s σ H Q I q => h.run pins s σ H Q I (i σ H Q q)⟩
abbrev FO (X : Cx) (cm : Cm) (e : Option Expr) (f : Om) : Prop := PO X e (tO X.K cm f)
theorem fo_none : FO X cm none oNone := po_none.imp fun σ H Q ⟨C, A, ρ, t, ρ', R, q, k⟩ => by
  cases q
  exact k H A (.refl A H) R
theorem fo_some {f : Em} (h : FE X cm e f) : FO X cm (some e) (oSome f) := (po_some h).imp fun σ H Q ⟨C, A, ρ, t, ρ', R, q, k⟩ => by
  unfold oSome at q
  rw [Option.bind_eq_some_iff] at q
  obtain ⟨⟨p, ρ1⟩, h1, h2⟩ := q
  dsimp only at h2
  split at h2
  · rename_i h3
    cases h2
    refine ⟨C, A, ρ, p, _, R, h1, fun v H1 A1 l1 R1 w1 => ?_⟩
    cases (rd_ok R1 w1 h3).int
    exact ⟨_, rfl, k H1 A1 l1 R1⟩
  · cases h2
def eSl (f : Em) (l h : Om) : Em := fun ρ => (f ρ).bind fun p => (l p.2).bind fun q => (h q.2).bind fun r => (rd r.2 p.1).bind fun d => (cSl d q.1 r.1).map fun z => (.val z, r.2)
theorem RpL.cut {K : PySem.W.Frag} {A : AS} {H : Hp} {xs : List V} {ds : List D} (r : RpL K cm A H xs ds) (lo hi : Option Int) : RpL K cm A H (cutV xs lo hi) (cutD ds lo hi) := by
  unfold cutV cutD
  rw [r.length]
  exact (r.drop _).take _
theorem fe_sl {f : Em} {l h : Om} {lo hi : Option Expr} {p2 : Pos} (ha : FE X cm a f) (hl : FO X cm lo l) (hh : FO X cm hi h) : FE X cm (.Subscript a (.Slice lo hi none p2) pos) (eSl f l h) :=
  (pe_slice (sl_list.or (sl_tupA.or sl_str)) ha hl hh).imp fun σ H Q ⟨C, A, ρ, t, ρ', R, q, k⟩ => by
    unfold eSl at q
    simp only [Option.bind_eq_some_iff, Option.map_eq_some_iff] at q
    obtain ⟨⟨p, ρ1⟩, h1, ⟨o1, ρ2⟩, h2, ⟨o2, ρ3⟩, h3, d, h4, z, h5, h6⟩ := q
    cases h6
    refine ⟨C, A, ρ, p, ρ1, R, h1, fun v1 H1 A1 l1 R1 w1 => ⟨C, A1, ρ1, o1, ρ2, R1, h2, fun H2 A2 l2 R2 => ⟨C, A2, ρ2, o2, ρ3, R2, h3, fun H3 A3 l3 R3 => ?_⟩⟩⟩
    have ro := rd_ok R3 ((w1.later l2).later l3) h4
    have l13 := (l1.trans l2).trans l3
    cases d <;> (try cases h5)
    · rename_i s
      simp only [cSl] at h5
      split at h5
      · rename_i hz
        cases h5
        cases ro.str
        refine .inr (.inr ⟨_, rfl, big_le (by rw [S_len]; exact hz), k _ H3 A3 l13 R3 ?_⟩)
        have e : cutS (S s) o1 o2 = S (cutD s o1 o2) := by
          unfold cutS cutD
          rw [S_cps, S_len]
          rfl
        rw [e]
        exact .str _
      · cases h5
    · rename_i ds
      obtain ⟨a, xs, rfl, hs, r⟩ := ro.tup
      refine .inr (.inl ⟨a, xs, rfl, hs, fun hw => ?_, fun _ p hp => k _ _ A3 (l13.trans (.same (same_new hp))) (R3.grow (same_new hp)) (new_tup R3.dom hp (r.cut o1 o2))⟩)
      have e : cutD ds o1 o2 = ds := by
        unfold cutD
        rw [← r.length, hw.1, hw.2, r.length]
        simp
      rw [e] at k
      exact k _ H3 A3 l13 R3 (SqT_nil_ref ro)
    · obtain ⟨a, xs, rfl, hs, r⟩ := ro.ls
      exact .inl ⟨a, xs, rfl, hs, fun p hp => k _ _ A3 (l13.trans (.same (same_new hp))) (R3.grow (same_new hp)) (new_lst R3.dom hp (r.cut o1 o2))⟩
/-- a list's slice, as a new list of one's own -/
def nSl (f : Em) (l h : Om) : Rho → Option (T × Rho) := fun ρ => (f ρ).bind fun p => (l p.2).bind fun q => (h q.2).bind fun r => (rd r.2 p.1).bind fun d => match d with
  | .lst ds => some (.ls (cutD ds q.1 r.1), r.2)
  | _ => none
theorem fn_sl {f : Em} {l h : Om} {lo hi : Option Expr} {p2 : Pos} (ha : FE X cm a f) (hl : FO X cm lo l) (hh : FO X cm hi h) : FN X cm (.Subscript a (.Slice lo hi none p2) pos) (nSl f l h) :=
  (pe_slice sl_list ha hl hh).imp fun σ H Q ⟨C, A, ρ, t, ρ', R, q, k⟩ => by
    unfold nSl at q
    simp only [Option.bind_eq_some_iff] at q
    obtain ⟨⟨p, ρ1⟩, h1, ⟨o1, ρ2⟩, h2, ⟨o2, ρ3⟩, h3, d, h4, h5⟩ := q
    dsimp only at h5
    split at h5
    · cases h5
      refine ⟨C, A, ρ, p, ρ1, R, h1, fun v1 H1 A1 l1 R1 w1 => ⟨C, A1, ρ1, o1, ρ2, R1, h2, fun H2 A2 l2 R2 => ⟨C, A2, ρ2, o2, _, R2, h3, fun H3 A3 l3 R3 => ?_⟩⟩⟩
      obtain ⟨a, xs, rfl, hs, r⟩ := (rd_ok R3 ((w1.later l2).later l3) h4).ls
      refine ⟨a, xs, rfl, hs, fun p hp => ?_⟩
      obtain ⟨l4, R4, hF⟩ := own1 (o := .lst (cutV xs o1 o2)) R3 hp
      exact k _ _ _ [p] (((l1.trans l2).trans l3).trans l4) R4 ⟨p, _, rfl, rfl, upd_same, (r.cut o1 o2).later l4.l⟩ (by simp) hF
    · cases h5

/-! ### built-in functions by data -/
def RoL (K : PySem.W.Frag) (cm : Cm) (A : AS) (H : Hp) (vs : List V) (ds : List D) : Prop := Paired (fun v d => Ro K cm A H v d) vs ds
def rds (ρ : Rho) : List RV → Option (List D)
  | [] => some []
  | r :: rs => (rd ρ r).bind fun d => (rds ρ rs).map fun ds => d :: ds
theorem rds_ok {K : PySem.W.Frag} {C : Fc} {A : AS} {σ : L2.St} {H : Hp} {ρ : Rho} (R : RS K cm C A [] σ H ρ) : ∀ {vs : List V} {rs : List RV} {ds : List D}, RRVs K cm A H σ vs rs → rds ρ rs = some ds → RoL K cm A H vs ds
  | _, _, _, .nil, e => by cases e; exact .nil
  | _, _, _, .cons h t, e => by
    unfold rds at e
    simp only [Option.bind_eq_some_iff, Option.map_eq_some_iff] at e
    obtain ⟨d, e1, ds, e2, e3⟩ := e
    cases e3
    exact .cons (rd_ok R h e1) (rds_ok R t e2)
/-- a built-in's rule gives what c says -/
def RC (K : PySem.W.Frag) (cm : Cm) (r : List V → Hp → VK → Prop) (c : List D → Option D) : Prop := ∀ (A : AS) (H : Hp) (vs : List V) (ds : List D) (dz : D) (Q : VK), (∀ a, A a → H a ≠ none) → HL K H →
  RoL K cm A H vs ds → c ds = some dz → (∀ z H', Same H H' → Rp K cm A H' z dz → Q z H') → r vs H Q
/-- .. a new list -/
def RCN (K : PySem.W.Frag) (cm : Cm) (r : List V → Hp → VK → Prop) (c : List D → Option (List D)) : Prop := ∀ (A : AS) (H : Hp) (vs : List V) (ds : List D) (es : List D) (Q : VK), (∀ a, A a → H a ≠ none) → HL K H →
  RoL K cm A H vs ds → c ds = some es → (∀ p xs, H p = none → RpL K cm A H xs es → Q (.ref p) (upd H p (.lst xs))) → r vs H Q
def eCb (c : List D → Option D) (g : Am) : Em := fun ρ => (g ρ).bind fun p => (rds p.2 p.1).bind fun ds => (c ds).map fun z => (.val z, p.2)
def nCb (c : List D → Option (List D)) (g : Am) : Rho → Option (T × Rho) := fun ρ => (g ρ).bind fun p => (rds p.2 p.1).bind fun ds => (c ds).map fun z => (.ls z, p.2)
theorem _root_.L2.PA.hl {es : List Expr} {t : TA} (h : PA X es t) : PA X es (fun σ H Q => t σ H (fun v H' => HL X.K H' → Q v H')) :=
  ⟨fun pos pins s σ H Q I q => thn (h.run pos pins s σ H _ I q) fun u s' ⟨v, H', I', r, k⟩ => ⟨v, H', I', r, k (Inv.hl I')⟩⟩
theorem tCb_of {K : PySem.W.Frag} {r : List V → Hp → VK → Prop} {c : List D → Option D} {g : Am} {σ : L2.St} {H : Hp} {Q : VK} (hr : RC K cm r c) (h : tE K cm (eCb c g) σ H Q) : tCB r (fun σ H Q => tAs K cm g σ H (fun v H' => HL K H' → Q v H')) σ H Q := by
  obtain ⟨C, A, ρ, t, ρ', R, q, k⟩ := h
  unfold eCb at q
  simp only [Option.bind_eq_some_iff, Option.map_eq_some_iff] at q
  obtain ⟨⟨rs, ρ1⟩, h1, ds, h2, z, h3, h4⟩ := q
  cases h4
  exact ⟨C, A, ρ, rs, ρ1, R, h1, fun vs H1 A1 l1 R1 w1 hl => hr A1 H1 vs ds z Q R1.dom hl (rds_ok R1 w1 h2) h3 fun z' H' g rz => k z' H' A1 (l1.trans (.same g)) (R1.grow g) rz⟩
theorem tCbN_of {K : PySem.W.Frag} {r : List V → Hp → VK → Prop} {c : List D → Option (List D)} {g : Am} {σ : L2.St} {H : Hp} {Q : VK} (hr : RCN K cm r c) (h : tN K cm (nCb c g) σ H Q) : tCB r (fun σ H Q => tAs K cm g σ H (fun v H' => HL K H' → Q v H')) σ H Q := by
  obtain ⟨C, A, ρ, t, ρ', R, q, k⟩ := h
  unfold nCb at q
  simp only [Option.bind_eq_some_iff, Option.map_eq_some_iff] at q
  obtain ⟨⟨rs, ρ1⟩, h1, ds, h2, z, h3, h4⟩ := q
  cases h4
  refine ⟨C, A, ρ, rs, ρ1, R, h1, fun vs H1 A1 l1 R1 w1 hl => hr A1 H1 vs ds z Q R1.dom hl (rds_ok R1 w1 h2) h3 fun p xs hp rx => ?_⟩
  obtain ⟨l2, R2, hF⟩ := own1 (o := .lst xs) R1 hp
  exact k _ _ _ [p] (l1.trans l2) R2 ⟨p, xs, rfl, rfl, upd_same, rx.later l2.l⟩ (by simp) hF
section
variable {x : Str} {p : Pos} {id T : String} {r : List V → Hp → VK → Prop} {g : Am}
theorem fe_cb {c : List D → Option D} (hc : CallR X (.builtin id) r) (hr : RC X.K cm r c) (hg : Gl X x) (hm : X.mg x = none) (hv : bootBuiltins x = some (.builtin id)) (ha : FA X cm (e :: es) g) (hn : x ≠ "__name__" := by decide) (hdb : (x == ("__debug__" : Str)) = false := by decide)
    (he : starEach (e :: es) X.env = (false, eval e X.env) :: starEach es X.env := by rfl) (hpl : (backTo pos (starEach es X.env)).any (·.1) = false := by rfl) : FE X cm (.Call (.Name x p) (e :: es) [] pos) (eCb c g) := (pe_callB hc hg hm hv ha.hl hn hdb he hpl).imp fun σ H Q q => tCb_of hr q
theorem fe_ct {c : List D → Option D} (hc : CallR X (.type T) r) (hr : RC X.K cm r c) (hg : Gl X x) (hm : X.mg x = none) (hv : bootBuiltins x = some (.type T)) (ha : FA X cm (e :: es) g) (hn : x ≠ "__name__" := by decide) (hdb : (x == ("__debug__" : Str)) = false := by decide)
    (he : starEach (e :: es) X.env = (false, eval e X.env) :: starEach es X.env := by rfl) (hpl : (backTo pos (starEach es X.env)).any (·.1) = false := by rfl) : FE X cm (.Call (.Name x p) (e :: es) [] pos) (eCb c g) := (pe_callTy hc hg hm hv ha.hl hn hdb he hpl).imp fun σ H Q q => tCb_of hr q
theorem fn_cb {c : List D → Option (List D)} (hc : CallR X (.builtin id) r) (hr : RCN X.K cm r c) (hg : Gl X x) (hm : X.mg x = none) (hv : bootBuiltins x = some (.builtin id)) (ha : FA X cm (e :: es) g) (hn : x ≠ "__name__" := by decide) (hdb : (x == ("__debug__" : Str)) = false := by decide)
    (he : starEach (e :: es) X.env = (false, eval e X.env) :: starEach es X.env := by rfl) (hpl : (backTo pos (starEach es X.env)).any (·.1) = false := by rfl) : FN X cm (.Call (.Name x p) (e :: es) [] pos) (nCb c g) := (pe_callB hc hg hm hv ha.hl hn hdb he hpl).imp fun σ H Q q => tCbN_of hr q
theorem fn_ct {c : List D → Option (List D)} (hc : CallR X (.type T) r) (hr : RCN X.K cm r c) (hg : Gl X x) (hm : X.mg x = none) (hv : bootBuiltins x = some (.type T)) (ha : FA X cm (e :: es) g) (hn : x ≠ "__name__" := by decide) (hdb : (x == ("__debug__" : Str)) = false := by decide)
    (he : starEach (e :: es) X.env = (false, eval e X.env) :: starEach es X.env := by rfl) (hpl : (backTo pos (starEach es X.env)).any (·.1) = false := by rfl) : FN X cm (.Call (.Name x p) (e :: es) [] pos) (nCb c g) := (pe_callTy hc hg hm hv ha.hl hn hdb he hpl).imp fun σ H Q q => tCbN_of hr q
end
end
end G

/-! Ly10: len, int, abs, sum, min, max, all, any, divmod, isinstance; append, pop, items stored, get. -/
namespace G
open PySem PySem.Spec L2

section
variable {X : Cx} {K : PySem.W.Frag} {cm : Cm} {pos : Pos} {e a b c : Expr} {es : List Expr}
theorem RoL.one {A : AS} {H : Hp} {vs : List V} {d : D} (h : RoL K cm A H vs [d]) : ∃ v, vs = [v] ∧ Ro K cm A H v d := by
  cases h with
  | cons h t => cases t; exact ⟨_, rfl, h⟩
theorem RoL.two {A : AS} {H : Hp} {vs : List V} {d e : D} (h : RoL K cm A H vs [d, e]) : ∃ v w, vs = [v, w] ∧ Ro K cm A H v d ∧ Ro K cm A H w e := by
  cases h with
  | cons h t => cases t with
    | cons h' t => cases t; exact ⟨_, _, rfl, h, h'⟩
def cLen : List D → Option D
  | [.str s] => if s.length ≤ big then some (.int s.length) else none
  | [.lst ds] => some (.int ds.length)
  | [.tup ds] => some (.int ds.length)
  | _ => none
theorem rc_len : RC K cm (fun xs H Q => ∃ x n, xs = [x] ∧ LenV K x H n ∧ Q (.int n) H) cLen := by
  intro A H vs ds dz Q hd hl hr e k
  unfold cLen at e
  split at e
  · split at e
    · rename_i hz
      cases e
      obtain ⟨v, rfl, r⟩ := hr.one
      cases r.str
      exact ⟨_, _, rfl, ⟨big_le (by rw [S_len]; exact hz), rfl⟩, by rw [S_len]; exact k _ H (.refl H) (.int _)⟩
    · cases e
  · cases e
    obtain ⟨v, rfl, r⟩ := hr.one
    obtain ⟨a, xs, rfl, hs, rl⟩ := r.ls
    exact ⟨_, _, rfl, .inl ⟨xs, hs, rfl⟩, by rw [rl.length]; exact k _ H (.refl H) (.int _)⟩
  · cases e
    obtain ⟨v, rfl, r⟩ := hr.one
    obtain ⟨a, xs, rfl, hs, rl⟩ := r.tup
    exact ⟨_, _, rfl, .inr ⟨xs, hs, rfl⟩, by rw [rl.length]; exact k _ H (.refl H) (.int _)⟩
  · cases e
def cInt : List D → Option D
  | [.int i] => some (.int i)
  | [.bl b] => some (.int (if b then 1 else 0))
  | _ => none
theorem rc_int : RC K cm (fun xs H Q => (∃ i, xs = [.int i] ∧ Q (.int i) H) ∨ ∃ k, xs = [.bl k] ∧ Q (.int (if k then 1 else 0)) H) cInt := by
  intro A H vs ds dz Q hd hl hr e k
  unfold cInt at e
  split at e
  · cases e
    obtain ⟨v, rfl, r⟩ := hr.one
    cases r.int
    exact .inl ⟨_, rfl, k _ H (.refl H) (.int _)⟩
  · cases e
    obtain ⟨v, rfl, r⟩ := hr.one
    cases r.bl
    exact .inr ⟨_, rfl, k _ H (.refl H) (.int _)⟩
  · cases e
def cAbs : List D → Option D
  | [.int i] => some (.int (if i < 0 then -i else i))
  | _ => none
theorem rc_abs : RC K cm (fun xs H Q => ∃ i, xs = [.int i] ∧ Q (.int (if i < 0 then -i else i)) H) cAbs := by
  intro A H vs ds dz Q hd hl hr e k
  unfold cAbs at e
  split at e
  · cases e
    obtain ⟨v, rfl, r⟩ := hr.one
    cases r.int
    exact ⟨_, rfl, k _ H (.refl H) (.int _)⟩
  · cases e
def cMax2 : List D → Option D
  | [.int i, .int j] => some (.int (if j > i then j else i))
  | _ => none
def cMin2 : List D → Option D
  | [.int i, .int j] => some (.int (if j < i then j else i))
  | _ => none
theorem rc_max2 : RC K cm (fun xs H Q => ∃ i j, xs = [.int i, .int j] ∧ Q (.int (if j > i then j else i)) H) cMax2 := by
  intro A H vs ds dz Q hd hl hr e k
  unfold cMax2 at e
  split at e
  · cases e
    obtain ⟨v, w, rfl, r, r'⟩ := hr.two
    cases r.int; cases r'.int
    exact ⟨_, _, rfl, k _ H (.refl H) (.int _)⟩
  · cases e
theorem rc_min2 : RC K cm (fun xs H Q => ∃ i j, xs = [.int i, .int j] ∧ Q (.int (if j < i then j else i)) H) cMin2 := by
  intro A H vs ds dz Q hd hl hr e k
  unfold cMin2 at e
  split at e
  · cases e
    obtain ⟨v, w, rfl, r, r'⟩ := hr.two
    cases r.int; cases r'.int
    exact ⟨_, _, rfl, k _ H (.refl H) (.int _)⟩
  · cases e
def D.i? : D → Option Int
  | .int i => some i
  | _ => none
def intL : List D → Option (List Int)
  | [] => some []
  | d :: ds => d.i?.bind fun i => (intL ds).map fun r => i :: r
def D.b? : D → Option Bool
  | .bl i => some i
  | _ => none
def boolL : List D → Option (List Bool)
  | [] => some []
  | d :: ds => d.b?.bind fun i => (boolL ds).map fun r => i :: r
theorem RpL.intL {A : AS} {H : Hp} : ∀ {xs : List V} {ds : List D} {ns : List Int}, RpL K cm A H xs ds → G.intL ds = some ns → xs = ns.map V.int
  | _, _, _, .nil, e => by cases e; rfl
  | _, _, _, .cons h t, e => by
    simp only [G.intL, Option.bind_eq_some_iff, Option.map_eq_some_iff] at e
    obtain ⟨i, e1, r, e2, e3⟩ := e
    cases e3
    cases h <;> cases e1
    rw [t.intL e2]; rfl
theorem RpL.boolL {A : AS} {H : Hp} : ∀ {xs : List V} {ds : List D} {ns : List Bool}, RpL K cm A H xs ds → G.boolL ds = some ns → xs = ns.map V.bl
  | _, _, _, .nil, e => by cases e; rfl
  | _, _, _, .cons h t, e => by
    simp only [G.boolL, Option.bind_eq_some_iff, Option.map_eq_some_iff] at e
    obtain ⟨i, e1, r, e2, e3⟩ := e
    cases e3
    cases h <;> cases e1
    rw [t.boolL e2]; rfl
def cSum : List D → Option D
  | [.lst ds] => (intL ds).map fun ns => .int ns.sum
  | _ => none
theorem rc_sum : RC K cm (rSum K) cSum := by
  intro A H vs ds dz Q hd hl hr e k
  unfold cSum at e
  split at e
  · rw [Option.map_eq_some_iff] at e
    obtain ⟨ns, e1, rfl⟩ := e
    obtain ⟨v, rfl, r⟩ := hr.one
    obtain ⟨a, xs, rfl, hs, rl⟩ := r.ls
    have := rl.intL e1
    subst this
    exact ⟨a, ns, rfl, hs, k _ H (.refl H) (.int _)⟩
  · cases e
def cAll : List D → Option D
  | [.lst ds] => (boolL ds).map fun ns => .bl (ns.all id)
  | _ => none
def cAny : List D → Option D
  | [.lst ds] => (boolL ds).map fun ns => .bl (ns.any id)
  | _ => none
theorem rc_all : RC K cm (rAll K) cAll := by
  intro A H vs ds dz Q hd hl hr e k
  unfold cAll at e
  split at e
  · rw [Option.map_eq_some_iff] at e
    obtain ⟨ns, e1, rfl⟩ := e
    obtain ⟨v, rfl, r⟩ := hr.one
    obtain ⟨a, xs, rfl, hs, rl⟩ := r.ls
    have := rl.boolL e1
    subst this
    exact ⟨a, ns, rfl, hs, k _ H (.refl H) (.bl _)⟩
  · cases e
theorem rc_any : RC K cm (rAny K) cAny := by
  intro A H vs ds dz Q hd hl hr e k
  unfold cAny at e
  split at e
  · rw [Option.map_eq_some_iff] at e
    obtain ⟨ns, e1, rfl⟩ := e
    obtain ⟨v, rfl, r⟩ := hr.one
    obtain ⟨a, xs, rfl, hs, rl⟩ := r.ls
    have := rl.boolL e1
    subst this
    exact ⟨a, ns, rfl, hs, k _ H (.refl H) (.bl _)⟩
  · cases e
def cDivmod : List D → Option D
  | [.int i, .int j] => if 0 < j ∧ j.natAbs < 1073741824 then some (.tup [.int (i / j), .int (i % j)]) else none
  | _ => none
theorem rc_divmod : RC K cm (fun xs H Q => ∃ i j, xs = [.int i, .int j] ∧ CDiv i j ∧ ∀ p, H p = none → Q (.ref p) (upd H p (.tup [.int (i / j), .int (i % j)]))) cDivmod := by
  intro A H vs ds dz Q hd hl hr e k
  unfold cDivmod at e
  split at e
  · split at e
    · rename_i hz
      cases e
      obtain ⟨v, w, rfl, r, r'⟩ := hr.two
      cases r.int; cases r'.int
      exact ⟨_, _, rfl, ⟨hz.1, by omega⟩, fun p hp => k _ _ (same_new hp) (new_tup hd hp (.cons (.int _) (.cons (.int _) .nil)))⟩
    · cases e
  · cases e
/-! ### isinstance -/
def D.ty : D → String
  | .non => "NoneType"
  | .bl _ => "bool"
  | .int _ => "int"
  | .str _ => "str"
  | .tup _ => "tuple"
  | .lst _ => "list"
  | .dic _ => "dict"
  | .dit _ => "dict"
  | .obj _ _ => "object"
def tyName (T : String) : Bool := T == "int" || T == "bool" || T == "str" || T == "tuple" || T == "list" || T == "dict"
def isT (T : String) (d : D) : Bool := d.ty == T || (T == "int" && d.ty == "bool")
def eIsi (T : String) (f : Em) : Em := fun ρ => (f ρ).bind fun p => (rd p.2 p.1).bind fun d => match d with
  | .obj _ _ => none
  | .dit _ => none
  | d => some (.val (.bl (isT T d)), p.2)
theorem Ro.tyx {A : AS} {H : Hp} {v : V} {d : D} (h : Ro K cm A H v d) (n : ∀ c fs, d ≠ .obj c fs) (n2 : ∀ fs, d ≠ .dit fs) : TyX K H v (.type d.ty) := by
  cases d with
  | non => cases h.non; exact .base .non
  | bl b => cases h.bl; exact .base (.bl b)
  | int i => cases h.int; exact .base (.int i)
  | str s => cases h.str; exact .base (.str _)
  | tup ds => obtain ⟨a, xs, rfl, hs, r⟩ := h.tup; exact (by
      rcases hs with (hs | ⟨o, hs⟩) | ⟨o, its, n, h1, h2, _⟩
      · exact .base (.tup hs)
      · exact .fTuple hs
      · exact .kTuple h1 h2)
  | lst ds => obtain ⟨a, xs, rfl, hs, r⟩ := h.ls; exact (by
      rcases hs with (hs | ⟨o, hs⟩) | ⟨o, its, n, h1, h2, _⟩
      · exact .base (.lst hs)
      · exact .base (.frz hs)
      · exact .kList h1 h2)
  | dic ds => obtain ⟨a, xs, rfl, hs, r⟩ := h.di; exact (by
      rcases hs with hs | ⟨o, hs⟩
      · exact .base (.dK hs)
      · exact .fDict hs)
  | dit ds => exact absurd rfl (n2 ds)
  | obj c fs => exact absurd rfl (n c fs)
theorem kit_isT {T : String} {d : D} (hT : tyName T = true) (n : ∀ c fs, d ≠ .obj c fs) : PySem.W.kitOne K (.type d.ty) (.type T) = some (isT T d) := by
  refine kit_ty ?_
  unfold tyName at hT
  simp only [Bool.or_eq_true, beq_iff_eq] at hT
  rcases hT with ((((h | h) | h) | h) | h) | h <;> subst h <;> cases d <;> first
    | (exact absurd rfl (n _ _))
    | (simp only [D.ty, isT]; decide +kernel)
theorem fe_isi {T : String} {f : Em} {x y : Str} {p p2 : Pos} (hT : tyName T = true) (hg : Gl X x) (hm : X.mg x = none) (hv : bootBuiltins x = some (.builtin "isinstance")) (ha : FE X cm e f) (hb : PE X (.Name y p2) (tC (.ty T))) (hn : x ≠ "__name__" := by decide) (hdb : (x == ("__debug__" : Str)) = false := by decide)
    (he : starEach [e, .Name y p2] X.env = (false, eval e X.env) :: starEach [.Name y p2] X.env := by rfl) (he2 : starEach [.Name y p2] X.env = (false, eval (.Name y p2) X.env) :: starEach [] X.env := by rfl) (hpl : (backTo pos (starEach [.Name y p2] X.env)).any (·.1) = false := by rfl) :
    FE X cm (.Call (.Name x p) [e, .Name y p2] [] pos) (eIsi T f) :=
  (pe_callB call_isi hg hm hv (pa_cons ha (pa_cons hb pa_nil he2) he) hn hdb he hpl).imp fun σ H Q ⟨C, A, ρ, t, ρ', R, q, k⟩ => by
    unfold eIsi at q
    simp only [Option.bind_eq_some_iff] at q
    obtain ⟨⟨r, ρ1⟩, h1, d, h2, h3⟩ := q
    have hd : (∀ c fs, d ≠ .obj c fs) ∧ (∀ fs, d ≠ .dit fs) ∧ t = .val (.bl (isT T d)) ∧ ρ' = ρ1 := by
      cases d <;> cases h3 <;> exact ⟨fun _ _ z => (nomatch z), fun _ z => (nomatch z), rfl, rfl⟩
    obtain ⟨n1, n2, rfl, rfl⟩ := hd
    refine ⟨C, A, ρ, r, ρ', R, h1, fun v H1 A1 l1 R1 w1 => ?_⟩
    have ro := rd_ok R1 w1 h2
    exact ⟨v, .ty T, _, _, _, rfl, .ty T, ro.tyx n1 n2, kit_isT hT n1, k _ H1 A1 l1 R1 (.bl _)⟩
end
end G

/-! Ly11: what one owns is changed: append, pop, items stored; calls that change an argument; get. -/
namespace G
open PySem PySem.Spec L2

def Sl.w : Sl → T → Sl
  | .no, _ => .no
  | .v _, t => .v t
  | .pin _, t => .pin t
def T.root : T → Bool
  | .ls _ => true
  | .di _ => true
  | .dt _ => true
  | _ => false
section
variable {K : PySem.W.Frag} {cm : Cm} {A A' : AS} {H H' : Hp} {C : Fc} {σ : L2.St} {ρ ρ' : Rho} {Y : List Addr}
theorem RT.root1 {v : V} {t : T} {F : List Addr} (h : RT K cm A H v t F) (hr : t.root = true) : ∃ l, v = .ref l ∧ F = [l] := by
  cases t with
  | ls ds => obtain ⟨a, xs, e, f, _⟩ := h; exact ⟨a, e, f⟩
  | di ds => obtain ⟨a, xs, e, f, _⟩ := h; exact ⟨a, e, f⟩
  | dt ds => obtain ⟨a, xs, e, f, _⟩ := h; exact ⟨a, e, f⟩
  | _ => cases hr
/-- one's own thing in a slot, and what it may become -/
theorem RS.root (R : RS K cm C A Y σ H ρ) {i : Nat} {s : Sl} {t : T} (e : ρ[i]? = some s) (hs : s.t = some t) (hr : t.root = true) :
    ∃ l, σ[i]? = some (some (.ref l)) ∧ RT K cm A H (.ref l) t [l] ∧ A l ∧ ∀ o' t', RT K cm A (upd H l o') (.ref l) t' [l] → RS K cm C A Y σ (upd H l o') (ρ.set i (s.w t')) ∧ Lt C A H A (upd H l o') := by
  obtain ⟨F, h1, h2, h3, h4, h5⟩ := R.sl
  obtain ⟨o, e1, r⟩ := h5 i s e
  have hil : i < ρ.length := (List.getElem?_eq_some_iff.mp e).1
  have main : ∃ v, o = some v ∧ RT K cm A H v t (F i) ∧ ∀ l, F i = [l] → (C.P l ∨ C.H0 l = none) ∧ ∀ H2 t', RT K cm A H2 v t' [l] → RSl K cm C A H2 i o (s.w t') [l] := by
    cases s with
    | no => cases hs
    | v t0 =>
      cases hs
      obtain ⟨v, rfl, rt, f⟩ := r
      refine ⟨v, rfl, rt, fun l q => ⟨.inr (f l (by rw [q]; simp)), fun H2 t' rt' => ⟨v, rfl, rt', fun a m => f a (by rw [q]; exact m)⟩⟩⟩
    | pin t0 =>
      cases hs
      obtain ⟨v, rfl, pv, rt, f⟩ := r
      exact ⟨v, rfl, rt, fun l q => ⟨f l (by rw [q]; simp), fun H2 t' rt' => ⟨v, rfl, pv, rt', fun a m => f a (by rw [q]; exact m)⟩⟩⟩
  obtain ⟨v, rfl, rt, hl⟩ := main
  obtain ⟨l, rfl, hF⟩ := rt.root1 hr
  obtain ⟨hP, hnew⟩ := hl l hF
  have hAl := h3 i l (by rw [hF]; simp)
  rw [hF] at rt
  refine ⟨l, e1, rt, hAl.1, fun o' t' rt' => ?_⟩
  have ne : ∀ a, ¬ A a → a ≠ l := fun a n z => n (by rw [z]; exact hAl.1)
  obtain ⟨u0, hu0, hpl⟩ : ∃ u, H l = some u ∧ Pl u := by
    cases t with
    | ls ds => obtain ⟨a, xs, z, _, e2, _⟩ := rt; cases z; exact ⟨_, e2, pl_lst⟩
    | di ds => obtain ⟨a, xs, z, _, e2, _⟩ := rt; cases z; exact ⟨_, e2, pl_dK⟩
    | dt ds => obtain ⟨a, xs, z, _, e2, _⟩ := rt; cases z; exact ⟨_, e2, pl_dT⟩
    | _ => cases hr
  have some' : ∀ a, H a ≠ none → upd H l o' a ≠ none := fun a q => by
    by_cases e : a = l
    · rw [e, upd_same]; exact fun z => nomatch z
    · rw [upd_ne e]; exact q
  have lt : Later A H A (upd H l o') := ⟨fun a u e _ n => by rw [upd_ne (ne a n)]; exact e, fun a z => .inl z, some'⟩
  refine ⟨⟨by rw [List.length_set]; exact R.len, ⟨F, h1, h2, h3, fun j ej => ?_, fun j s' ej => ?_⟩, R.out, R.sub, fun a z => some' a (R.dom a z), fun a u e t n => ?_, fun a z => some' a (R.fd a z), tabs_upd R.tb hu0 hpl, fun a z φ e => by
    by_cases w : a = l
    · rw [w, upd_same] at e
      have e := Option.some.inj e
      cases t' with
      | p d => exact absurd rt'.1 (by simp)
      | ls ds => obtain ⟨b, xs, z1, _, e2, _⟩ := rt'; cases z1; rw [upd_same] at e2; rw [e] at e2; cases e2
      | di ds => obtain ⟨b, xs, z1, _, e2, _⟩ := rt'; cases z1; rw [upd_same] at e2; rw [e] at e2; cases e2
      | dt ds => obtain ⟨b, xs, z1, _, e2, _⟩ := rt'; cases z1; rw [upd_same] at e2; rw [e] at e2; cases e2
      | ob c fs => obtain ⟨b, dx, gs, F', z1, _, e2, _⟩ := rt'; cases z1; rw [upd_same] at e2; rw [e] at e2; cases e2
    · rw [upd_ne w] at e; exact R.ne a z φ e⟩, ⟨lt, fun a u z e _ => by rw [upd_ne (fun q => hAl.2.1 (by rw [← q]; exact z))]; exact e⟩⟩
  · refine h4 j ?_
    rw [List.getElem?_eq_none_iff] at ej ⊢
    rw [List.length_set] at ej
    exact ej
  · by_cases hj : j = i
    · subst hj
      rw [List.getElem?_set_self hil] at ej; cases ej
      refine ⟨_, e1, ?_⟩
      rw [hF]
      exact hnew _ t' rt'
    · rw [List.getElem?_set_ne (Ne.symm hj)] at ej
      obtain ⟨u, e2, r2⟩ := h5 j s' ej
      refine ⟨u, e2, r2.keep lt fun a m u q _ => ?_⟩
      rw [upd_ne (fun z => hj (h2 j i a m (by rw [hF, z]; simp)))]
      exact q
  · have : a ≠ l := fun z => by
      subst z
      rcases hP with z | z
      · exact n z
      · rw [z] at e; cases e
    rw [upd_ne this]
    exact R.fr a u e t n
theorem RS.list (R : RS K cm C A Y σ H ρ) {i : Nat} {s : Sl} {ds : List D} (e : ρ[i]? = some s) (hs : s.t = some (.ls ds)) :
    ∃ l xs, σ[i]? = some (some (.ref l)) ∧ H l = some (.lst xs) ∧ RpL K cm A H xs ds ∧ ∀ xs' ds', RpL K cm A H xs' ds' → RS K cm C A Y σ (upd H l (.lst xs')) (ρ.set i (s.w (.ls ds'))) ∧ Lt C A H A (upd H l (.lst xs')) := by
  obtain ⟨l, e1, rt, hA, k⟩ := R.root e hs rfl
  obtain ⟨a, xs, z, _, e2, r⟩ := rt
  cases z
  refine ⟨l, xs, e1, e2, r, fun xs' ds' r' => k _ _ ?_⟩
  have lt : Later A H A (upd H l (.lst xs')) := ⟨fun a u e _ n => by rw [upd_ne (fun z => n (by rw [z]; exact hA))]; exact e, fun a z => .inl z, fun a q => by
    by_cases e : a = l
    · rw [e, upd_same]; exact fun z => nomatch z
    · rw [upd_ne e]; exact q⟩
  exact ⟨l, xs', rfl, rfl, upd_same, r'.later lt⟩
theorem RS.dict (R : RS K cm C A Y σ H ρ) {i : Nat} {s : Sl} {ds : List (DK × D)} (e : ρ[i]? = some s) (hs : s.t = some (.di ds)) :
    ∃ l xs, σ[i]? = some (some (.ref l)) ∧ H l = some (.dK xs) ∧ RpK K cm A H xs ds ∧ ∀ xs' ds', RpK K cm A H xs' ds' → RS K cm C A Y σ (upd H l (.dK xs')) (ρ.set i (s.w (.di ds'))) ∧ Lt C A H A (upd H l (.dK xs')) := by
  obtain ⟨l, e1, rt, hA, k⟩ := R.root e hs rfl
  obtain ⟨a, xs, z, _, e2, r⟩ := rt
  cases z
  refine ⟨l, xs, e1, e2, r, fun xs' ds' r' => k _ _ ?_⟩
  have lt : Later A H A (upd H l (.dK xs')) := ⟨fun a u e _ n => by rw [upd_ne (fun z => n (by rw [z]; exact hA))]; exact e, fun a z => .inl z, fun a q => by
    by_cases e : a = l
    · rw [e, upd_same]; exact fun z => nomatch z
    · rw [upd_ne e]; exact q⟩
  exact ⟨l, xs', rfl, rfl, upd_same, r'.later lt⟩
def putD {κ : Type} [DecidableEq κ] (kvs : List (κ × D)) (k : κ) (v : D) : List (κ × D) :=
  if (kvs.any fun kv => decide (kv.1 = k)) = true then kvs.map (fun kv => if kv.1 = k then (kv.1, v) else kv) else kvs ++ [(k, v)]
theorem RpK.any {k : DK} : ∀ {ks : List (Key × V)} {kvs : List (DK × D)}, RpK K cm A H ks kvs → (ks.any fun kv => decide (kv.1 = k.k)) = kvs.any fun kv => decide (kv.1 = k)
  | _, _, .nil => rfl
  | _, _, .cons (k := k') h r => by
    rw [List.any_cons, List.any_cons, RpK.any r]
    congr 1
    by_cases q : k' = k
    · subst q; simp
    · simp [q]; exact fun z => q (DK.k_inj z)
theorem RpK.repl {k : DK} {v : V} {d : D} (hd : Rp K cm A H v d) : ∀ {ks : List (Key × V)} {kvs : List (DK × D)}, RpK K cm A H ks kvs → RpK K cm A H (ks.map fun kv => if kv.1 = k.k then (kv.1, v) else kv) (kvs.map fun kv => if kv.1 = k then (kv.1, d) else kv)
  | _, _, .nil => .nil
  | _, _, .cons (k := k') h r => by
    rw [List.map_cons, List.map_cons]
    by_cases q : k' = k
    · subst q
      rw [if_pos rfl, if_pos rfl]
      exact .cons hd (RpK.repl hd r)
    · rw [if_neg q, if_neg (fun z => q (DK.k_inj z))]
      exact .cons h (RpK.repl hd r)
theorem RpK.app : ∀ {ks ls : List (Key × V)} {kvs lvs : List (DK × D)}, RpK K cm A H ks kvs → RpK K cm A H ls lvs → RpK K cm A H (ks ++ ls) (kvs ++ lvs)
  | _, _, _, _, .nil, s => s
  | _, _, _, _, .cons h r, s => .cons h (RpK.app r s)
theorem RpK.put {k : DK} {v : V} {d : D} (hd : Rp K cm A H v d) {ks : List (Key × V)} {kvs : List (DK × D)} (r : RpK K cm A H ks kvs) : RpK K cm A H (putK ks k.k v) (putD kvs k d) := by
  unfold putK putD
  rw [r.any]
  split
  · exact r.repl hd
  · exact r.app (.cons hd .nil)
theorem RpK.length : ∀ {ks : List (Key × V)} {kvs : List (DK × D)}, RpK K cm A H ks kvs → ks.length = kvs.length
  | _, _, .nil => rfl
  | _, _, .cons _ r => by simp [r.length]
end

/-! ### methods of one's own list -/
def RM (K : PySem.W.Frag) (cm : Cm) (r : V → List V → Hp → VK → Prop) (m : List D → List D → Option (D × List D)) : Prop := ∀ (A : AS) (H : Hp) (l : Addr) (xs vs : List V) (ds es ds' : List D) (z : D) (Q : VK),
  H l = some (.lst xs) → RpL K cm A H xs ds → RpL K cm A H vs es → m ds es = some (z, ds') → (∀ vz xs', Rp K cm A H vz z → RpL K cm A H xs' ds' → Q vz (upd H l (.lst xs'))) → r (.ref l) vs H Q
def isLs (ρ : Rho) (i : Nat) : Option (Sl × List D) := match ρ[i]? with
  | some (.v (.ls ds)) => some (.v (.ls ds), ds)
  | some (.pin (.ls ds)) => some (.pin (.ls ds), ds)
  | _ => none
theorem isLs_some {ρ : Rho} {i : Nat} {s : Sl} {ds : List D} (h : isLs ρ i = some (s, ds)) : ρ[i]? = some s ∧ s.t = some (.ls ds) := by
  unfold isLs at h
  split at h <;> cases h <;> exact ⟨by assumption, rfl⟩
def eMt (i : Nat) (m : List D → List D → Option (D × List D)) (g : Am) : Em := fun ρ => (isLs ρ i).bind fun _ => (g ρ).bind fun p => (pus p.2 p.1).bind fun es => (isLs p.2 i).bind fun s => (m s.2 es).map fun r => (.val r.1, p.2.set i (s.1.w (.ls r.2)))
section
variable {X : Cx} {cm : Cm} {pos : Pos} {e a b o : Expr} {es : List Expr}
theorem fe_mt {i : Nat} {name : Str} {id : String} {apos cpos : Pos} {r : V → List V → Hp → VK → Prop} {m : List D → List D → Option (D × List D)} {g : Am} (slot : Slot "list" name id) (hty : typeOf (.builtin id) = pure (.type "method_descriptor")) (hm : MtR X id r) (hr : RM X.K cm r m) (ho : PE X o (tVar i)) (ha : FA X cm (e :: es) g)
    (hbase : attributeBase o name X.env (eval o X.env) = eval o X.env := by rfl)
    (hfew : ((backTo cpos (starEach (e :: es) X.env)).all (fun x => !x.1) && (backToKw cpos (keywordEach [] X.env)).all (fun x => x.1.isSome)
      && decide ((e :: es).length + ([] : List Keyword).length + (if ([] : List Keyword).isEmpty then 0 else 1) < 30)) = true := by rfl)
    (hline : (apos.endLine == cpos.line) = true := by rfl) (hs : starEach (e :: es) X.env = (false, eval e X.env) :: starEach es X.env := by rfl) (hplain : (backTo cpos (starEach es X.env)).any (·.1) = false := by rfl) :
    FE X cm (.Call (.Attribute o name apos) (e :: es) [] cpos) (eMt i m g) :=
  (pe_bm PySem.F.plainAttrs_list slot hty hm ho ha hbase hfew hline hs hplain).imp fun σ H Q ⟨C, A, ρ, t, ρ', R, q, k⟩ => by
    unfold eMt at q
    simp only [Option.bind_eq_some_iff, Option.map_eq_some_iff] at q
    obtain ⟨⟨s0, ds0⟩, h0, ⟨rs, ρ1⟩, h1, es', h2, ⟨s, ds⟩, h3, ⟨z, ds'⟩, h4, h5⟩ := q
    cases h5
    obtain ⟨e0, t0⟩ := isLs_some h0
    obtain ⟨l0, xs0, v0, hl0, _⟩ := R.list e0 t0
    refine ⟨_, v0, .inl ⟨rfl, xs0, .inl (.inl hl0)⟩, C, A, ρ, rs, ρ1, R, h1, fun vs H1 A1 l1 R1 w1 => ?_⟩
    obtain ⟨e1, t1⟩ := isLs_some h3
    obtain ⟨l, xs, v1, hl, rl, put⟩ := R1.list e1 t1
    rw [v0] at v1; cases v1
    refine hr A1 H1 l0 xs vs ds es' ds' z Q hl rl (pus_ok R1 w1 h2) h4 fun vz xs' rz rx => ?_
    obtain ⟨R2, l2⟩ := put xs' ds' rx
    exact k vz _ A1 (l1.trans l2) R2 (rz.later l2.l)
def eMt0 (i : Nat) (m : List D → List D → Option (D × List D)) : Em := fun ρ => (isLs ρ i).bind fun s => (m s.2 []).map fun r => (.val r.1, ρ.set i (s.1.w (.ls r.2)))
theorem fe_mt0 {i : Nat} {name : Str} {id : String} {apos cpos : Pos} {r : V → List V → Hp → VK → Prop} {m : List D → List D → Option (D × List D)} (slot : Slot "list" name id) (hty : typeOf (.builtin id) = pure (.type "method_descriptor")) (hm : MtR X id r) (hr : RM X.K cm r m) (ho : PE X o (tVar i))
    (hbase : attributeBase o name X.env (eval o X.env) = eval o X.env := by rfl) (hline : (apos.endLine == cpos.line) = true := by rfl) : FE X cm (.Call (.Attribute o name apos) [] [] cpos) (eMt0 i m) :=
  (pe_bm0 PySem.F.plainAttrs_list slot hty hm ho hbase hline).imp fun σ H Q ⟨C, A, ρ, t, ρ', R, q, k⟩ => by
    unfold eMt0 at q
    simp only [Option.bind_eq_some_iff, Option.map_eq_some_iff] at q
    obtain ⟨⟨s, ds⟩, h3, ⟨z, ds'⟩, h4, h5⟩ := q
    cases h5
    obtain ⟨e1, t1⟩ := isLs_some h3
    obtain ⟨l, xs, v1, hl, rl, put⟩ := R.list e1 t1
    refine ⟨_, v1, .inl ⟨rfl, xs, .inl (.inl hl)⟩, hr A H l xs [] ds [] ds' z Q hl rl .nil h4 fun vz xs' rz rx => ?_⟩
    obtain ⟨R2, l2⟩ := put xs' ds' rx
    exact k vz _ A l2 R2 (rz.later l2.l)
def mApp : List D → List D → Option (D × List D)
  | ds, [d] => if ds.length < big then some (.non, ds ++ [d]) else none
  | _, _ => none
theorem rm_app {K : PySem.W.Frag} : RM K cm rAppend mApp := by
  intro A H l xs vs ds es ds' z Q hl rx re e k
  unfold mApp at e
  split at e
  · split at e
    · rename_i hz
      cases e
      cases re with
      | cons r1 re => cases re; exact ⟨l, xs, _, rfl, rfl, hl, big_lt (by rw [rx.length]; omega), k _ _ .non (rx.app (.one r1))⟩
    · cases e
  · cases e
def mPop : List D → List D → Option (D × List D)
  | ds, [] => ds[ds.length - 1]?.map fun d => (d, ds.dropLast)
  | _, _ => none
theorem rm_pop {K : PySem.W.Frag} : RM K cm rPop mPop := by
  intro A H l xs vs ds es ds' z Q hl rx re e k
  unfold mPop at e
  split at e
  · rw [Option.map_eq_some_iff] at e
    obtain ⟨d, e1, e2⟩ := e
    cases e2
    cases re
    obtain ⟨v, h1, h2⟩ := rx.get e1
    refine ⟨l, xs, v, rfl, rfl, hl, by rw [rx.length]; exact h1, k _ _ h2 ?_⟩
    rw [List.dropLast_eq_take, List.dropLast_eq_take, rx.length]
    exact rx.take _
  · cases e
def mPopAt : List D → List D → Option (D × List D)
  | ds, [.int i] => if 0 ≤ i ∧ i < ds.length ∧ ds.length ≤ big then ds[i.toNat]?.map fun d => (d, ds.eraseIdx i.toNat) else none
  | _, _ => none
theorem rm_popAt {K : PySem.W.Frag} : RM K cm rPopAt mPopAt := by
  intro A H l xs vs ds es ds' z Q hl rx re e k
  unfold mPopAt at e
  split at e
  · split at e
    · rename_i hz
      rw [Option.map_eq_some_iff] at e
      obtain ⟨d, e1, e2⟩ := e
      cases e2
      cases re with
      | cons r1 re =>
        cases re; cases r1
        obtain ⟨v, h1, h2⟩ := rx.get e1
        have hb : big = 1000000 := rfl
        rename_i i
        refine ⟨l, xs, i, i.toNat, v, rfl, rfl, hl, by omega, by omega, ?_, h1, k _ _ h2 (rx.erase _)⟩
        have : ixN xs.length i = some i.toNat := by
          unfold ixN
          rw [if_pos hz.1, if_pos (by rw [rx.length]; exact hz.2.1)]
        exact (ixN_seq this).1
    · cases e
  · cases e

/-! ### items stored -/
def isDi (ρ : Rho) (i : Nat) : Option (Sl × List (DK × D)) := match ρ[i]? with
  | some (.v (.di ds)) => some (.v (.di ds), ds)
  | some (.pin (.di ds)) => some (.pin (.di ds), ds)
  | _ => none
theorem isDi_some {ρ : Rho} {i : Nat} {s : Sl} {ds : List (DK × D)} (h : isDi ρ i = some (s, ds)) : ρ[i]? = some s ∧ s.t = some (.di ds) := by
  unfold isDi at h
  split at h <;> cases h <;> exact ⟨by assumption, rfl⟩
def D.k? : D → Option DK
  | .int n => some (.i n)
  | .str s => some (.s s)
  | _ => none
/-- what a store at a key (or place) makes of a slot -/
def putAt (i : Nat) (ρ : Rho) (k d : D) : Option Rho := match isLs ρ i with
  | some (s, ds) => (match k with
    | .int n => (ixN ds.length n).map fun j => ρ.set i (s.w (.ls (ds.set j d)))
    | _ => none)
  | none => (isDi ρ i).bind fun s => (k.k?).bind fun kk => if s.2.length < big then some (ρ.set i (s.1.w (.di (putD s.2 kk d)))) else none
def hSub (i : Nat) (g : Em) : D → Rho → Option Rho := fun d ρ => (isLs ρ i).bind fun _ => (g ρ).bind fun p => (rd p.2 p.1).bind fun k => (isLs p.2 i).bind fun _ => putAt i p.2 k d
theorem fg_sub {i : Nat} {g : Em} (ho : PE X o (tVar i)) (hi : FE X cm b g)
    (ha : ∀ v, assign (.Subscript o b pos) X.env v = (do
      let ov ← holding [v] (eval o X.env)
      let iv ← holding [v, ov] (eval b X.env)
      standAt pos
      holding [v, ov, iv] (setItem ov iv v)
      release [v, ov, iv] []) := by intro _; rfl) : FG X cm (.Subscript o b pos) [] (hSub i g) := (pg_sub ho hi set_list ha).imp fun v σ H Q ⟨C, A, ρ, d, ρ', R, r, q, k⟩ => by
  simp only [hSub, Option.bind_eq_some_iff] at q
  obtain ⟨⟨s0, ds0⟩, h0, ⟨rv, ρ1⟩, h1, kd, h2, ⟨s1, ds1⟩, h3, h4⟩ := q
  obtain ⟨e0, t0⟩ := isLs_some h0
  obtain ⟨l0, xs0, v0, hl0, _⟩ := R.list e0 t0
  refine ⟨_, v0, C, A, ρ, rv, ρ1, R, h1, fun w H1 A1 l1 R1 w1 => ?_⟩
  obtain ⟨e1, t1⟩ := isLs_some h3
  obtain ⟨l, xs, v1, hl, rl, put⟩ := R1.list e1 t1
  rw [v0] at v1; cases v1
  unfold putAt at h4
  rw [show isLs ρ1 i = some (s1, ds1) from h3] at h4
  dsimp only at h4
  split at h4
  · rw [Option.map_eq_some_iff] at h4
    obtain ⟨j, h5, rfl⟩ := h4
    cases (rd_ok R1 w1 h2).int
    obtain ⟨R2, l2⟩ := put (xs.set j v) (ds1.set j d) (rl.set (r.later l1.l) j)
    exact ⟨l0, xs, _, j, rfl, rfl, hl, by rw [rl.length]; exact h5, k σ _ A1 (l1.trans l2) R2 rfl fun _ _ => rfl⟩
  · cases h4
def sPut (i : Nat) (f g : Em) : Sm := fun ρ => (f ρ).bind fun p => (pu p.2 p.1).bind fun d => if (isLs p.2 i).isSome || (isDi p.2 i).isSome then (g p.2).bind fun q => (rd q.2 q.1).bind fun k => if (isLs p.2 i).isSome == (isLs q.2 i).isSome then (putAt i q.2 k d).map .nx else none else none
theorem fs_put {i : Nat} {f g : Em} {pos' : Pos} (hu : X.A.units + 1 < cLine) (ho : PE X o (tVar i)) (hi : FE X cm b g) (he : FE X cm e f)
    (ha : ∀ v, assign (.Subscript o b pos') X.env v = (do
      let ov ← holding [v] (eval o X.env)
      let iv ← holding [v, ov] (eval b X.env)
      standAt pos'
      holding [v, ov, iv] (setItem ov iv v)
      release [v, ov, iv] []) := by intro _; rfl)
    (hs : swapsWithSole [.Subscript o b pos'] e pos.line X.env = pure false := by rfl) (hw : swappedStores [.Subscript o b pos'] e X.env = pure none := by rfl) (h1 : (assignEach [.Subscript o b pos'] X.env).map (·.2) = [assign (.Subscript o b pos') X.env] := by rfl)
    (hs2 : swapsWith e (some (.Subscript o b pos')) pos.line X.env = pure false := by rfl) : FS X cm (.Assign [.Subscript o b pos'] e pos) (sPut i f g) :=
  ⟨fun pins s σ H D I ⟨C, A, ρ, o', R, q, k⟩ => by
    simp only [sPut, Option.bind_eq_some_iff] at q
    obtain ⟨⟨rv, ρ1⟩, h1', d, h2', q⟩ := q
    cases hb : ((isLs ρ1 i).isSome || (isDi ρ1 i).isSome) with
    | false => rw [hb, if_neg (by simp)] at q; cases q
    | true =>
      rw [hb, if_pos rfl] at q
      simp only [Option.bind_eq_some_iff] at q
      obtain ⟨⟨rk, ρ2⟩, h3', kd, h4', h5'⟩ := q
      split at h5'
      rotate_left
      · cases h5'
      rename_i hsame
      rw [Option.map_eq_some_iff] at h5'
      obtain ⟨ρ3, h6, h7⟩ := h5'
      cases h7
      cases hL : isLs ρ1 i with
      | some sd =>
        obtain ⟨s0, ds0⟩ := sd
        have hg := fg_sub (cm := cm) ho hi ha
        refine (ps_asg he hg hs hw h1).run pins s σ H D I ⟨C, A, ρ, rv, ρ1, R, h1', fun v H1 A1 l1 R1 w1 => ⟨C, A1, ρ1, d, ρ3, R1, pu_ok R1 w1 h2', ?_, fun σ2 H2 A2 l2 R2 _ _ => k σ2 H2 A2 (l1.trans l2) R2⟩⟩
        rw [hL] at hsame
        have hL2 : ∃ s1, isLs ρ2 i = some s1 := by
          cases z : isLs ρ2 i with
          | some s1 => exact ⟨s1, rfl⟩
          | none => rw [z] at hsame; simp at hsame
        obtain ⟨s1, hL2⟩ := hL2
        simp only [hSub, hL, Option.bind_some, h3', h4', hL2]
        exact h6
      | none =>
        rw [hL] at hb hsame
        have hL2 : isLs ρ2 i = none := by
          cases z : isLs ρ2 i with
          | none => rfl
          | some s1 => rw [z] at hsame; simp at hsame
        cases hD : isDi ρ1 i with
        | none => rw [hD] at hb; simp at hb
        | some sd =>
          obtain ⟨s0, ds0⟩ := sd
          obtain ⟨e0, t0⟩ := isDi_some hD
          refine (ps_dput hu ho hi he hs2).run pins s σ H D I ⟨C, A, ρ, rv, ρ1, R, h1', fun v H1 A1 l1 R1 w1 => ?_⟩
          obtain ⟨l0, xs0, v0, hl0, _⟩ := R1.dict e0 t0
          refine ⟨_, v0, C, A1, ρ1, rk, ρ2, R1, h3', fun w H2 A2 l2 R2 w2 => ?_⟩
          unfold putAt at h6
          rw [hL2] at h6
          simp only [Option.bind_eq_some_iff] at h6
          obtain ⟨⟨s1, ds1⟩, h8, kk, h9, h10⟩ := h6
          split at h10
          · rename_i hz
            cases h10
            obtain ⟨e1, t1⟩ := isDi_some h8
            obtain ⟨l, xs, v1, hl, rl, put⟩ := R2.dict e1 t1
            rw [v0] at v1; cases v1
            obtain ⟨R3, l3⟩ := put (putK xs kk.k v) (putD ds1 kk d) (rl.put ((pu_ok R1 w1 h2').later l2.l))
            have hk : w = kV kk.k := by
              cases kd <;> cases h9
              · exact (rd_ok R2 w2 h4').int
              · exact (rd_ok R2 w2 h4').str
            have hz' : ds1.length < big := hz
            exact ⟨l0, _, rfl, .inl ⟨xs, kk.k, hl, hk, big_lt (by rw [rl.length]; omega), rfl⟩, k σ _ A2 ((l1.trans l2).trans l3) R3⟩
          · cases h10⟩
end
end G

/-! Ly12: calls that change one argument; get; enumerate. -/
namespace G
open PySem PySem.Spec L2

/-- the slots of a call's arguments, that at place j being one's own -/
def argO (ρ : Rho) : Nat → List RV → Option Rho
  | 0, .ref i :: rs => (ρ[i]?.bind Sl.t).bind fun t => if t.root then (pus ρ rs).map fun ds => .pin t :: slP ds else none
  | j + 1, r :: rs => (pu ρ r).bind fun d => (argO ρ j rs).map fun ss => .v (.p d) :: ss
  | _, _ => none
def refAt (j : Nat) (rs : List RV) : Option Nat := rs[j]?.bind fun r => match r with
  | .ref i => some i
  | _ => none
/-- what comes back is written back -/
def backO (i j : Nat) (ρ ss : Rho) : Option Rho := match ss[j]? with
  | some (.pin t) => if t.root then ρ[i]?.map fun s => ρ.set i (s.w t) else none
  | _ => none
def nCallO (n j : Nat) (f : Rho → Option (T × Rho)) (g : Am) : Rho → Option (T × Rho) := fun ρ => (g ρ).bind fun p => (argO p.2 j p.1).bind fun ss => (refAt j p.1).bind fun i => if ss.length = n then (f ss).bind fun r => (backO i j p.2 r.2).map fun ρ2 => (r.1, ρ2) else none
section
variable {K : PySem.W.Frag} {cm : Cm} {A A' : AS} {H H' : Hp} {C : Fc} {σ : L2.St} {ρ ρ' : Rho} {Y : List Addr}
theorem argO_ok (R : RS K cm C A [] σ H ρ) : ∀ {j : Nat} {rs : List RV} {vs : List V} {ss : Rho} {i : Nat}, RRVs K cm A H σ vs rs → argO ρ j rs = some ss → refAt j rs = some i →
    ∃ s t l, ρ[i]? = some s ∧ s.t = some t ∧ t.root = true ∧ σ[i]? = some (some (.ref l)) ∧ vs[j]? = some (.ref l) ∧ ss[j]? = some (.pin t) ∧ vs.length = ss.length ∧ ∀ m s', m ≠ j → ss[m]? = some s' → ∃ d v, s' = .v (.p d) ∧ vs[m]? = some v ∧ Rp K cm A H v d
  | 0, [], _, _, _, h, e, _ => by cases e
  | 0, .val d :: rs, _, _, _, h, e, _ => by cases e
  | 0, .ref i0 :: rs, _, ss, i, .cons (a := v) h t, e, e2 => by
    simp only [argO, Option.bind_eq_some_iff] at e
    obtain ⟨tr, h1, h2⟩ := e
    obtain ⟨s, h3, h4⟩ := h1
    obtain rfl : i0 = i := by simpa [refAt] using e2
    split at h2
    rotate_left
    · cases h2
    rename_i hroot
    rw [Option.map_eq_some_iff] at h2
    obtain ⟨ds, h5, rfl⟩ := h2
    have rl := pus_ok R t h5
    obtain ⟨l, g1, _⟩ := R.root h3 h4 hroot
    have hv : σ[i0]? = some (some v) := h
    rw [hv] at g1; cases g1
    refine ⟨s, tr, l, h3, h4, hroot, hv, rfl, rfl, by simp [slP, rl.length], fun m s' hm e3 => ?_⟩
    cases m with
    | zero => exact absurd rfl hm
    | succ m =>
      simp only [slP, List.getElem?_cons_succ, List.getElem?_map, Option.map_eq_some_iff] at e3
      obtain ⟨d, e4, rfl⟩ := e3
      obtain ⟨v', e5, e6⟩ := rl.get e4
      exact ⟨d, v', rfl, by simpa using e5, e6⟩
  | j + 1, [], _, _, _, h, e, _ => by cases e
  | j + 1, r :: rs, _, ss, i, .cons (a := v) h t, e, e2 => by
    simp only [argO, Option.bind_eq_some_iff, Option.map_eq_some_iff] at e
    obtain ⟨d, h1, ss', h2, rfl⟩ := e
    have rp := pu_ok R h h1
    obtain ⟨s, tr, l, g1, g2, g3, g4, g5, g6, g7, g8⟩ := argO_ok R t h2 (show refAt j rs = some i by simpa [refAt] using e2)
    refine ⟨s, tr, l, g1, g2, g3, g4, by simpa using g5, by simpa using g6, by simp [g7], fun m s' hm e3 => ?_⟩
    cases m with
    | zero =>
      cases e3
      exact ⟨d, v, rfl, rfl, rp⟩
    | succ m =>
      obtain ⟨d', v', q1, q2, q3⟩ := g8 m s' (by omega) (by simpa using e3)
      exact ⟨d', v', q1, by simpa using q2, q3⟩
theorem RS.argsO {vs : List V} {ss : Rho} {i j : Nat} {s : Sl} {t : T} {l : Addr} (R : RS K cm C A [] σ H ρ) (h1 : ρ[i]? = some s) (h2 : s.t = some t) (h3 : t.root = true) (h4 : σ[i]? = some (some (.ref l))) (h5 : vs[j]? = some (.ref l)) (h6 : ss[j]? = some (.pin t)) (h7 : vs.length = ss.length)
    (h8 : ∀ m s', m ≠ j → ss[m]? = some s' → ∃ d v, s' = .v (.p d) ∧ vs[m]? = some v ∧ Rp K cm A H v d) : RS K cm (cIn H (fun a => a = l) A vs) A [] (vs.map some) H ss := by
  obtain ⟨l', g1, rt, hA, _⟩ := R.root h1 h2 h3
  rw [h4] at g1; cases g1
  refine ⟨by rw [List.length_map, h7], ⟨fun m => if m = j then [l] else [], fun m => ?_, fun m k a q q' => ?_, fun m a q => ?_, fun m q => ?_, fun m s' q => ?_⟩, fun a z => z.1, fun a z => ?_, R.dom, fun _ _ e _ _ => e, fun _ e => e, R.tb, R.ne⟩
  · dsimp only; split <;> simp
  · dsimp only at q q'
    by_cases e1 : m = j <;> by_cases e2 : k = j
    · rw [e1, e2]
    · rw [if_neg e2] at q'; cases q'
    · rw [if_neg e1] at q; cases q
    · rw [if_neg e1] at q; cases q
  · dsimp only at q
    split at q
    · obtain rfl : a = l := by simpa using q
      exact ⟨hA, fun z => z.2 rfl, fun z => nomatch z⟩
    · cases q
  · dsimp only
    split
    · rename_i e; rw [e, h6] at q; cases q
    · rfl
  · dsimp only
    by_cases hm : m = j
    · subst hm
      rw [h6] at q; cases q
      refine ⟨some (.ref l), by rw [List.getElem?_map, h5]; rfl, ?_⟩
      rw [if_pos rfl]
      exact ⟨.ref l, rfl, h5, rt, fun a z => .inl (show a = l by simpa using z)⟩
    · obtain ⟨d, v, rfl, e1, r⟩ := h8 m s' hm q
      refine ⟨some v, by rw [List.getElem?_map, e1]; rfl, ?_⟩
      rw [if_neg hm]
      exact ⟨v, rfl, RT.pure r, fun a z => nomatch z⟩
  · by_cases e : a = l
    · exact .inr (.inl e)
    · exact .inl ⟨z, e⟩
theorem RS.afterO {vs : List V} {ss : Rho} {σ' : L2.St} {i j : Nat} {s : Sl} {t t' : T} {l : Addr} {F : List Addr} (R : RS K cm C A [] σ H ρ) (h1 : ρ[i]? = some s) (h2 : s.t = some t) (h3 : t.root = true) (h4 : σ[i]? = some (some (.ref l))) (h5 : vs[j]? = some (.ref l))
    (lt : Lt (cIn H (fun a => a = l) A vs) A H A' H') (R' : RS K cm (cIn H (fun a => a = l) A vs) A' F σ' H' ss) (hF : ∀ a ∈ F, H a = none ∧ A' a ∧ ¬ (cIn H (fun a => a = l) A vs).A0 a) (h6 : ss[j]? = some (.pin t')) (h7 : t'.root = true) :
    Lt C A H A' H' ∧ RS K cm C A' F σ H' (ρ.set i (s.w t')) ∧ ∀ a ∈ F, C.H0 a = none ∧ A' a ∧ ¬ C.A0 a := by
  obtain ⟨Fs, g1, g2, g3, g4, g5⟩ := R.sl
  obtain ⟨Gs, k1, k2, k3, k4, k5⟩ := R'.sl
  have hil : i < ρ.length := (List.getElem?_eq_some_iff.mp h1).1
  -- the slot's own address
  obtain ⟨o, e1, r1⟩ := g5 i s h1
  rw [h4] at e1; cases e1
  have hFi : Fs i = [l] ∧ (C.P l ∨ C.H0 l = none) := by
    cases s with
    | no => cases h2
    | v t0 =>
      cases h2
      obtain ⟨v, e, rt, f⟩ := r1
      cases e
      obtain ⟨l', e, q⟩ := rt.root1 h3
      cases e
      exact ⟨q, .inr (f l (by rw [q]; simp))⟩
    | pin t0 =>
      cases h2
      obtain ⟨v, e, _, rt, f⟩ := r1
      cases e
      obtain ⟨l', e, q⟩ := rt.root1 h3
      cases e
      exact ⟨q, f l (by rw [q]; simp)⟩
  obtain ⟨hFi, hP⟩ := hFi
  have hlA := g3 i l (by rw [hFi]; simp)
  have hl0 : ¬ C.A0 l := hlA.2.1
  -- the tree that has come back
  obtain ⟨o', q1, v', q2, q3, rt', _⟩ := k5 j _ h6
  have hv' : v' = .ref l := by
    have : (cIn H (fun a => a = l) A vs).pv j = some (.ref l) := h5
    rw [this] at q3; cases q3; rfl
  subst hv'
  obtain ⟨l', e, hG⟩ := rt'.root1 h7
  cases e
  rw [hG] at rt'
  have hl' := k3 j l (by rw [hG]; simp)
  have kept : ∀ a o, A a → a ≠ l → H a = some o → NT o → H' a = some o := fun a o z n e t => lt.o a o ⟨z, n⟩ e t
  have inA : ∀ a, A a → A' a := fun a z => by
    by_cases e : a = l
    · rw [e]; exact hl'.1
    · exact R'.out a ⟨z, e⟩
  refine ⟨⟨lt.l, fun a o z e t => kept a o (R.out a z) (fun q => hl0 (by rw [← q]; exact z)) e t⟩, ?_, fun a m => ⟨R.new0 (hF a m).1, (hF a m).2.1, fun z => R.dom a (R.out a z) (hF a m).1⟩⟩
  refine ⟨by rw [List.length_set]; exact R.len, ⟨Fs, g1, g2, fun k a m => ⟨inA a (g3 k a m).1, (g3 k a m).2.1, fun z => R.dom a (g3 k a m).1 (hF a z).1⟩, fun k e => ?_, fun k s' e => ?_⟩, fun a z => inA a (R.out a z), fun a z => ?_, R'.dom, fun a o e t n => ?_, fun a z => R'.fd a (R.fd a z), R'.tb, R'.ne⟩
  · refine g4 k ?_
    rw [List.getElem?_eq_none_iff] at e ⊢
    rw [List.length_set] at e
    exact e
  · by_cases hk : k = i
    · subst hk
      rw [List.getElem?_set_self hil] at e; cases e
      refine ⟨_, h4, ?_⟩
      rw [hFi]
      cases s with
      | no => cases h2
      | v t0 =>
        obtain ⟨v, e, _, f⟩ := r1
        cases e
        exact ⟨_, rfl, rt', fun a m => f a (by rw [hFi]; exact m)⟩
      | pin t0 =>
        obtain ⟨v, e, pv, _, f⟩ := r1
        cases e
        exact ⟨_, rfl, pv, rt', fun a m => f a (by rw [hFi]; exact m)⟩
    · rw [List.getElem?_set_ne (Ne.symm hk)] at e
      obtain ⟨u, e2, r2⟩ := g5 k s' e
      refine ⟨u, e2, r2.keep lt.l fun a m u q t => kept a u (g3 k a m).1 (fun z => hk (g2 k i a m (by rw [hFi, z]; simp))) q t⟩
  · rcases R'.sub a z with q | q | q
    · exact R.sub a q.1
    · rw [show a = l from q]; exact .inr hP
    · exact .inr (.inr (R.new0 q))
  · have : a ≠ l := fun z => by
      subst z
      rcases hP with z | z
      · exact n z
      · rw [z] at e; cases e
    exact R'.fr a o (R.fr a o e t n) t this
end
section
variable {X : Cx} {cm : Cm} {pos p : Pos} {e : Expr} {es : List Expr}
theorem tN_callO {K : PySem.W.Frag} {n j : Nat} {m : Rho → Option (T × Rho)} {g : Am} {σ : L2.St} {H : Hp} {Q : VK} {E : XK} (h : tN K cm (nCallO n j m g) σ H Q) : tCall (spG K cm n m) [] E (tAs K cm g) σ H Q := by
  obtain ⟨C, A, ρ, t, ρ', R, q, kk⟩ := h
  unfold nCallO at q
  simp only [Option.bind_eq_some_iff] at q
  obtain ⟨⟨rs, ρ1⟩, h1, ss, h2, i, h3, h4⟩ := q
  split at h4
  rotate_left
  · cases h4
  rename_i hn
  simp only [Option.bind_eq_some_iff, Option.map_eq_some_iff] at h4
  obtain ⟨⟨t', ss'⟩, h5, ρ2, h6, h7⟩ := h4
  cases h7
  unfold backO at h6
  split at h6
  rotate_left
  · cases h6
  rename_i tb hb
  split at h6
  rotate_left
  · cases h6
  rename_i hroot
  rw [Option.map_eq_some_iff] at h6
  obtain ⟨s0, h8, rfl⟩ := h6
  refine ⟨C, A, ρ, rs, ρ1, R, h1, fun vs H1 A1 l1 R1 w1 => ?_⟩
  show spG K cm n m (vs ++ []) H1 Q E
  rw [List.append_nil]
  obtain ⟨s, tr, l, g1, g2, g3, g4, g5, g6, g7, g8⟩ := argO_ok R1 w1 h2 h3
  rw [g1] at h8; cases h8
  refine ⟨by rw [g7, hn], _, A1, ss, _, ss', R1.argsO g1 g2 g3 g4 g5 g6 g7 g8, h5, fun v H' A' F σ' lt R' rt hnd hF => ?_⟩
  obtain ⟨l2, R2, hF2⟩ := R1.afterO g1 g2 g3 g4 g5 lt R' hF hb hroot
  exact kk v H' A' F (l1.trans l2) R2 rt hnd hF2
theorem fn_callO {ps : List Str} {k j0 j n : Nat} {x : Str} {m : Rho → Option (T × Rho)} {g : Am} (D : Dg X.prog X.w X.K X.mg X.base cm k x ps m) (hr : Room j X.A) (hk : k ≤ j) (hg : Gl X x) (ha : FA X cm (e :: es) g) (hn : ps.length = n := by rfl)
    (hdb : (x == ("__debug__" : Str)) = false := by decide) (he : starEach (e :: es) X.env = (false, eval e X.env) :: starEach es X.env := by rfl) (hpl : (backTo pos (starEach es X.env)).any (·.1) = false := by rfl) :
    FN X cm (.Call (.Name x p) (e :: es) [] pos) (nCallO n j0 m g) := by
  subst hn
  obtain ⟨f, fd, F, hm, hkp, hb⟩ := D
  exact (pe_call F (hr.mono hk) hg hm hkp hb .nil pass0 ha hdb he hpl).imp fun σ H Q q => tN_callO q
end
end G

/-! Ly13: dicts walked (locked meanwhile), get; enumerate. -/
namespace G
open PySem PySem.Spec L2

/-- a slot's own thing laid down: it changes no more -/
def frzS (i : Nat) (ρ : Rho) : Option Rho := match ρ[i]? with
  | some (.v t) => some (ρ.set i (.v (.p t.d)))
  | _ => none
section
variable {K : PySem.W.Frag} {cm : Cm} {A A' : AS} {H H' : Hp} {C : Fc} {σ : L2.St} {ρ ρ' : Rho} {Y : List Addr}
theorem RS.frz {i : Nat} (R : RS K cm C A [] σ H ρ) (e : frzS i ρ = some ρ') : ∃ A', Lt C A H A' H ∧ RS K cm C A' [] σ H ρ' := by
  unfold frzS at e
  split at e
  rotate_left
  · cases e
  rename_i t q
  cases e
  obtain ⟨F, h1, h2, h3, h4, h5⟩ := R.sl
  have hil : i < ρ.length := (List.getElem?_eq_some_iff.mp q).1
  obtain ⟨o, e1, v, rfl, rt, f⟩ := h5 i _ q
  have lt : Lt C A H (fun a => A a ∧ a ∉ F i) H := (Lt.refl A H).less fun a z => z.1
  refine ⟨_, lt, by rw [List.length_set]; exact R.len, ⟨fun j => if j = i then [] else F j, fun j => ?_, fun j k a m m' => ?_, fun j a m => ?_, fun j ej => ?_, fun j s ej => ?_⟩, fun a z => ⟨R.out a z, fun m => (h3 i a m).2.1 z⟩, fun a z => R.sub a z.1, fun a z => R.dom a z.1, R.fr, R.fd, R.tb, fun a z => R.ne a z.1⟩
  · dsimp only; split
    · exact .nil
    · exact h1 j
  · dsimp only at m m'
    split at m <;> split at m' <;> first | cases m | cases m' | exact h2 j k a m m'
  · dsimp only at m
    split at m
    · cases m
    · rename_i hj
      exact ⟨⟨(h3 j a m).1, fun z => hj (h2 j i a m z)⟩, (h3 j a m).2.1, fun z => nomatch z⟩
  · dsimp only
    split
    · rfl
    · rename_i hj
      rw [List.getElem?_set_ne (Ne.symm hj)] at ej
      exact h4 j ej
  · dsimp only
    by_cases hj : j = i
    · subst hj
      rw [List.getElem?_set_self hil] at ej; cases ej
      refine ⟨_, e1, ?_⟩
      rw [if_pos rfl]
      exact ⟨v, rfl, RT.pure (rt.frz lt.l fun a m z => z.2 m), fun a m => nomatch m⟩
    · rw [if_neg hj]
      rw [List.getElem?_set_ne (Ne.symm hj)] at ej
      obtain ⟨u, e2, r⟩ := h5 j s ej
      exact ⟨u, e2, r.keep lt.l fun a _ o q => fun _ => q⟩
/-! a dict locked, unlocked -/
structure Sw (d : Addr) (ks : List (Key × V)) (H H2 : Hp) : Prop where
  a : Rd H d (.dK ks)
  b : Rd H2 d (.dK ks)
  e : ∀ x, x ≠ d → H2 x = H x
theorem rd_uniq {d : Addr} {u u' : HO} (h : Rd H d u) (h' : Rd H d u') (n : ∀ o x, u ≠ .frz o x) (n' : ∀ o x, u' ≠ .frz o x) : u = u' := by
  rcases h with h | ⟨o, h⟩ <;> rcases h' with h' | ⟨o', h'⟩ <;> rw [h] at h' <;> injection h' with h'
  · exact absurd h' (n _ _)
  · exact absurd h'.symm (n' _ _)
  · injection h'
theorem Sw.rd {d : Addr} {ks : List (Key × V)} {H2 : Hp} (s : Sw d ks H H2) {x : Addr} {u : HO} (h : Rd H x u) (n : ∀ o x, u ≠ .frz o x) : Rd H2 x u := by
  by_cases q : x = d
  · subst q
    have := rd_uniq h s.a n fun _ _ z => nomatch z
    rw [this]; exact s.b
  · unfold Rd
    rw [s.e x q]; exact h
theorem Sw.at {d : Addr} {ks : List (Key × V)} {H2 : Hp} (s : Sw d ks H H2) {x : Addr} {u : HO} (h : H x = some u) (n : ∀ o x, u ≠ .frz o x) (n2 : ∀ ks, u ≠ .dK ks) : H2 x = some u := by
  by_cases q : x = d
  · subst q
    exact absurd (rd_uniq (.inl h) s.a n fun _ _ z => nomatch z) (n2 ks)
  · rw [s.e x q]; exact h
theorem SL.sw {d : Addr} {ks : List (Key × V)} {H2 : Hp} (s : Sw d ks H H2) {a : Addr} {xs : List V} (h : SL K A H a xs) : SL K A H2 a xs := h.imp_left fun h => ⟨s.rd h.1 (fun _ _ z => nomatch z), h.2⟩
theorem ST.sw {d : Addr} {ks : List (Key × V)} {H2 : Hp} (s : Sw d ks H H2) {a : Addr} {xs : List V} (h : ST K A H a xs) : ST K A H2 a xs := h.imp_left fun h => ⟨s.at h.1 (fun _ _ z => nomatch z) (fun _ z => nomatch z), h.2⟩
mutual
theorem Rp.sw {d : Addr} {ks : List (Key × V)} {H2 : Hp} (s : Sw d ks H H2) : ∀ {v : V} {e : D}, Rp K cm A H v e → Rp K cm A H2 v e
  | _, _, .non => .non
  | _, _, .bl b => .bl b
  | _, _, .int i => .int i
  | _, _, .str x => .str x
  | _, _, .tup h r => .tup (h.sw s) (RpL.sw s r)
  | _, _, .lst h r => .lst (h.sw s) (RpL.sw s r)
  | _, _, .dic h n r => .dic (s.rd h fun _ _ z => nomatch z) n (RpK.sw s r)
  | _, _, .dit h n r => .dit (s.rd h fun _ _ z => nomatch z) n (RpU.sw s r)
  | _, _, .obj h n r => .obj (s.at h (fun _ _ z => nomatch z) fun _ z => nomatch z) n (RpF.sw s r)
theorem RpL.sw {d : Addr} {ks : List (Key × V)} {H2 : Hp} (s : Sw d ks H H2) : ∀ {v : List V} {e : List D}, RpL K cm A H v e → RpL K cm A H2 v e
  | _, _, .nil => .nil
  | _, _, .cons h r => .cons (Rp.sw s h) (RpL.sw s r)
theorem RpK.sw {d : Addr} {ks : List (Key × V)} {H2 : Hp} (s : Sw d ks H H2) : ∀ {v : List (Key × V)} {e : List (DK × D)}, RpK K cm A H v e → RpK K cm A H2 v e
  | _, _, .nil => .nil
  | _, _, .cons h r => .cons (Rp.sw s h) (RpK.sw s r)
theorem RpU.sw {d : Addr} {ks : List (Key × V)} {H2 : Hp} (s : Sw d ks H H2) : ∀ {v : List (List Key × V)} {e : List (List DK × D)}, RpU K cm A H v e → RpU K cm A H2 v e
  | _, _, .nil => .nil
  | _, _, .cons h r => .cons (Rp.sw s h) (RpU.sw s r)
theorem RpF.sw {d : Addr} {ks : List (Key × V)} {H2 : Hp} (s : Sw d ks H H2) : ∀ {v : List (Str × V)} {e : List (Str × D)}, RpF K cm A H v e → RpF K cm A H2 v e
  | _, _, .nil => .nil
  | _, _, .cons h r => .cons (Rp.sw s h) (RpF.sw s r)
end
mutual
theorem RT.sw {d : Addr} {ks : List (Key × V)} {H2 : Hp} (s : Sw d ks H H2) : ∀ {v : V} {t : T} {F : List Addr}, d ∉ F → RT K cm A H v t F → RT K cm A H2 v t F
  | v, .p e, F, _, h => ⟨h.1, h.2.sw s⟩
  | v, .ls ds, F, n, h => by
    obtain ⟨b, xs, e1, rfl, e, r⟩ := h
    exact ⟨b, xs, e1, rfl, by rw [s.e b (fun z => n (by simp [z]))]; exact e, r.sw s⟩
  | v, .di ds, F, n, h => by
    obtain ⟨b, xs, e1, rfl, e, r⟩ := h
    exact ⟨b, xs, e1, rfl, by rw [s.e b (fun z => n (by simp [z]))]; exact e, r.sw s⟩
  | v, .dt ds, F, n, h => by
    obtain ⟨b, xs, e1, rfl, e, r⟩ := h
    exact ⟨b, xs, e1, rfl, by rw [s.e b (fun z => n (by simp [z]))]; exact e, r.sw s⟩
  | v, .ob c fs, F, n, h => by
    obtain ⟨b, dx, gs, F', e1, rfl, e, r⟩ := h
    exact ⟨b, dx, gs, F', e1, rfl, by rw [s.e b (fun z => n (by simp [z]))]; exact e, RTs.sw s (fun z => n (by simp [z])) r⟩
theorem RTs.sw {d : Addr} {ks : List (Key × V)} {H2 : Hp} (s : Sw d ks H H2) : ∀ {gs : List (Str × V)} {fs : List (Str × T)} {F : List Addr}, d ∉ F → RTs K cm A H gs fs F → RTs K cm A H2 gs fs F
  | gs, [], F, _, h => h
  | gs, (f, t) :: r, F, n, h => by
    obtain ⟨v, gs', F1, F2, e1, rfl, h1, h2⟩ := h
    rw [List.mem_append, not_or] at n
    exact ⟨v, gs', F1, F2, e1, rfl, RT.sw s n.1 h1, RTs.sw s n.2 h2⟩
end
/-- the entry's heap with the dict as it is meanwhile -/
def Fc.sw (C : Fc) (d : Addr) (o : HO) : Fc := { C with H0 := fun a => match C.H0 a with
  | none => none
  | some u => if a = d then some o else some u }
theorem sw_none {d a : Addr} {o : HO} : (C.sw d o).H0 a = none ↔ C.H0 a = none := by
  unfold Fc.sw
  dsimp only
  cases q : C.H0 a with
  | none => simp
  | some u => by_cases e : a = d <;> simp [e]
theorem RSl.sw {d : Addr} {ks : List (Key × V)} {H2 : Hp} {o : HO} (s : Sw d ks H H2) {i : Nat} {u : Option V} {t : Sl} {F : List Addr} (n : d ∉ F) (h : RSl K cm C A H i u t F) : RSl K cm (C.sw d o) A H2 i u t F := by
  cases t with
  | no => exact h
  | v t => obtain ⟨v, e, r, f⟩ := h; exact ⟨v, e, r.sw s n, fun a m => sw_none.mpr (f a m)⟩
  | pin t => obtain ⟨v, e, e2, r, f⟩ := h; exact ⟨v, e, e2, r.sw s n, fun a m => (f a m).imp id sw_none.mpr⟩
theorem RSl.unsw {d : Addr} {ks : List (Key × V)} {H2 : Hp} {o : HO} (s : Sw d ks H H2) {i : Nat} {u : Option V} {t : Sl} {F : List Addr} (n : d ∉ F) (h : RSl K cm (C.sw d o) A H i u t F) : RSl K cm C A H2 i u t F := by
  cases t with
  | no => exact h
  | v t => obtain ⟨v, e, r, f⟩ := h; exact ⟨v, e, r.sw s n, fun a m => sw_none.mp (f a m)⟩
  | pin t => obtain ⟨v, e, e2, r, f⟩ := h; exact ⟨v, e, e2, r.sw s n, fun a m => (f a m).imp id sw_none.mp⟩
theorem Sw.some' {d : Addr} {ks : List (Key × V)} {H2 : Hp} (s : Sw d ks H H2) (a : Addr) (h : H a ≠ none) : H2 a ≠ none := by
  by_cases q : a = d
  · subst q
    rcases s.b with z | ⟨o, z⟩ <;> rw [z] <;> exact fun z => nomatch z
  · rw [s.e a q]; exact h
theorem tabs_sw {T : List (Addr × Str)} {d : Addr} {ks : List (Key × V)} {o : HO} (t : LamX.Tabs T H) (h : Rd H d (.dK ks)) : LamX.Tabs T (upd H d o) := by
  rcases h with h | ⟨ob, h⟩
  · exact tabs_upd t h pl_dK
  · exact tabs_upd t h pl_frz
theorem RS.sw {d : Addr} {ks : List (Key × V)} {o : HO} (R : RS K cm C A Y σ H ρ) (s : Sw d ks H (upd H d o)) (n : ¬ A d) : RS K cm (C.sw d o) A Y σ (upd H d o) ρ := by
  obtain ⟨F, h1, h2, h3, h4, h5⟩ := R.sl
  refine ⟨R.len, ⟨F, h1, h2, h3, h4, fun i t e => ?_⟩, R.out, fun a z => (R.sub a z).imp_right fun q => q.imp_right sw_none.mpr, fun a z => s.some' a (R.dom a z), fun a u e tn np => ?_, fun a z => s.some' a (R.fd a fun q => z (sw_none.mpr q)), tabs_sw R.tb s.a, fun a z φ e => R.ne a z φ (by rw [upd_ne (fun w => n (by rw [← w]; exact z))] at e; exact e)⟩
  · obtain ⟨u, e1, r⟩ := h5 i t e
    exact ⟨u, e1, r.sw s fun m => n (h3 i d m).1⟩
  · change (match C.H0 a with | none => none | some u => if a = d then some o else some u) = some u at e
    cases q : C.H0 a with
    | none => rw [q] at e; cases e
    | some u' =>
      rw [q] at e
      dsimp only at e
      by_cases z : a = d
      · rw [if_pos z] at e
        rw [z, upd_same]; exact e
      · rw [if_neg z] at e
        cases e
        rw [upd_ne z]; exact R.fr a _ q tn np
theorem RS.unsw {d : Addr} {ks : List (Key × V)} {o o1 : HO} (R : RS K cm (C.sw d o) A Y σ H ρ) (s : Sw d ks H (upd H d o1)) (n : ¬ A d) (h0 : ∀ x, C.H0 d = some x → NT x → ¬ C.P d → x = o1) : RS K cm C A Y σ (upd H d o1) ρ := by
  obtain ⟨F, h1, h2, h3, h4, h5⟩ := R.sl
  refine ⟨R.len, ⟨F, h1, h2, h3, h4, fun i t e => ?_⟩, R.out, fun a z => (R.sub a z).imp_right fun q => q.imp_right sw_none.mp, fun a z => s.some' a (R.dom a z), fun a u e tn np => ?_, fun a z => s.some' a (R.fd a fun q => z (sw_none.mp q)), tabs_sw R.tb s.a, fun a z φ e => R.ne a z φ (by rw [upd_ne (fun w => n (by rw [← w]; exact z))] at e; exact e)⟩
  · obtain ⟨u, e1, r⟩ := h5 i t e
    exact ⟨u, e1, r.unsw s fun m => n (h3 i d m).1⟩
  · by_cases z : a = d
    · subst z
      rw [upd_same, h0 u e tn np]
    · rw [upd_ne z]
      refine R.fr a u ?_ tn np
      show (match C.H0 a with | none => none | some u => if a = d then some o else some u) = some u
      rw [e]
      exact if_neg z
theorem Lt.unsw {d : Addr} {ks : List (Key × V)} {o o1 : HO} (h1 : H d = some o1) (n : ¬ A d) (n0 : ¬ C.A0 d) (l : Lt (C.sw d o) A (upd H d o) A' H') : Lt C A H A' (upd H' d o1) := by
  refine ⟨⟨fun a u e tn na => ?_, fun a z => (l.l.nw a z).imp id fun e => ?_, fun a e => ?_⟩, fun a u z e tn => ?_⟩
  · by_cases q : a = d
    · rw [q] at e ⊢; rw [upd_same, ← h1, e]
    · rw [upd_ne q]; exact l.l.st a u (by rw [upd_ne q]; exact e) tn na
  · by_cases q : a = d
    · rw [q, upd_same] at e; cases e
    · rw [upd_ne q] at e; exact e
  · by_cases q : a = d
    · rw [q, upd_same]; exact fun z => nomatch z
    · rw [upd_ne q]; exact l.l.dm a (by rw [upd_ne q]; exact e)
  · have q : a ≠ d := fun w => n0 (by rw [← w]; exact z)
    rw [upd_ne q]; exact l.o a u z (by rw [upd_ne q]; exact e) tn
end

/-! ### the keys of a dict in a slot -/
def keysD (kvs : List (DK × D)) : List D := kvs.map fun kv => kv.1.d
/-- the dict in a slot, laid down if it is one's own -/
def dicS (i : Nat) (ρ : Rho) : Option (List (DK × D) × Rho) := match ρ[i]? with
  | some (.v (.p (.dic kvs))) => some (kvs, ρ)
  | some (.v (.di kvs)) => (frzS i ρ).map fun ρ' => (kvs, ρ')
  | _ => none
def iKey (i : Nat) : Im := fun ρ => (dicS i ρ).map fun p => (keysD p.1, p.2)
theorem dicS_ok {K : PySem.W.Frag} {cm : Cm} {A : AS} {H : Hp} {C : Fc} {σ : L2.St} {ρ ρ1 : Rho} {i : Nat} {kvs : List (DK × D)} (R : RS K cm C A [] σ H ρ) (e : dicS i ρ = some (kvs, ρ1)) :
    ∃ A1 d ks, Lt C A H A1 H ∧ RS K cm C A1 [] σ H ρ1 ∧ σ[i]? = some (some (.ref d)) ∧ Rd H d (.dK ks) ∧ ¬ A1 d ∧ RpK K cm A1 H ks kvs := by
  have pure : ∀ {A1 : AS} {ρ1 : Rho}, RS K cm C A1 [] σ H ρ1 → ρ1[i]? = some (.v (.p (.dic kvs))) → ∃ d ks, σ[i]? = some (some (.ref d)) ∧ Rd H d (.dK ks) ∧ ¬ A1 d ∧ RpK K cm A1 H ks kvs := fun {A1 ρ1} R1 q => by
    obtain ⟨F, _, _, _, _, h5⟩ := R1.sl
    obtain ⟨o, e1, v, rfl, rt, _⟩ := h5 i _ q
    obtain ⟨_, rp⟩ := rt
    cases rp with
    | dic h n r => exact ⟨_, _, e1, h, n, r⟩
  unfold dicS at e
  split at e
  · rename_i q
    cases e
    obtain ⟨d, ks, h⟩ := pure R q
    exact ⟨A, d, ks, .refl A H, R, h⟩
  · rename_i q
    rw [Option.map_eq_some_iff] at e
    obtain ⟨ρ2, e2, e3⟩ := e
    cases e3
    obtain ⟨A1, l, R1⟩ := R.frz e2
    have q2 : ρ1[i]? = some (.v (.p (.dic kvs))) := by
      unfold frzS at e2
      rw [q] at e2
      cases e2
      rw [List.getElem?_set_self (List.getElem?_eq_some_iff.mp q).1, T.d]
    obtain ⟨d, ks, h⟩ := pure R1 q2
    exact ⟨A1, d, ks, l, R1, h⟩
  · cases e
theorem RpK.at {K : PySem.W.Frag} {cm : Cm} {A : AS} {H : Hp} : ∀ {ks : List (Key × V)} {kvs : List (DK × D)} {i : Nat} {k : DK} {d : D}, RpK K cm A H ks kvs → kvs[i]? = some (k, d) → ∃ v, ks[i]? = some (k.k, v) ∧ Rp K cm A H v d
  | _, _, _, _, _, .nil, e => by simp at e
  | _, _, 0, _, _, .cons h _, e => by
    simp at e
    obtain ⟨rfl, rfl⟩ := e
    exact ⟨_, rfl, h⟩
  | _, _, i + 1, _, _, .cons _ r, e => by
    obtain ⟨v, h1, h2⟩ := RpK.at (i := i) r (by simpa using e)
    exact ⟨v, by simpa using h1, h2⟩
theorem kV_d {K : PySem.W.Frag} {cm : Cm} {A : AS} {H : Hp} (k : DK) : Rp K cm A H (kV k.k) k.d := by
  cases k with
  | i n => exact .int n
  | s t => exact .str t
theorem it_keys {K : PySem.W.Frag} {cm : Cm} {d : Addr} {od : Obj} {ks : List (Key × V)} {kvs : List (DK × D)} : ItOk K cm (Itk d od ks) (fun A H => H d = some (.frz od (.dK ks)) ∧ ¬ A d ∧ RpK K cm A H ks kvs) (keysD kvs) where
  stay := fun A H A' H' ⟨h, n, r⟩ l => ⟨l.st _ _ h pl_frz.1 n, (l.rd (.inl h) n).2, r.later l⟩
  go := fun A H i ⟨h, _, r⟩ q => ⟨h, by rw [r.length]; simpa [keysD] using q⟩
  yld := fun A H i x H' e ⟨h, _, r⟩ _ q hy => by
    obtain ⟨rfl, k, v, e1, rfl⟩ := hy
    simp only [keysD, List.getElem?_map, Option.map_eq_some_iff] at q
    obtain ⟨⟨k', d'⟩, q1, rfl⟩ := q
    obtain ⟨v', e2, _⟩ := r.at q1
    rw [e1] at e2; cases e2
    exact ⟨.refl _, kV_d k'⟩
  stop := fun A H i ⟨h, _, r⟩ q => ⟨h, by rw [r.length]; simpa [keysD] using q⟩
section
variable {X : Cx} {cm : Cm} {pos : Pos} {elt tg iter e c : Expr} {ifs : List Expr}
theorem fn_lcK {i : Nat} {own : List (Str × Nat)} {scope : Scope} {is : List Nat} {h : D → Rho → Option Rho} {g : Bm} {el : Em} (hc : X.calm = true) (hN : X.N.Nodup) (ho : PE X iter (tVar i)) (ok : BlkOk X.N X.env.scope scope own)
    (hg : ∀ (s : Shared) (H : Hp) (C : Addr) (cl : List (Str × Addr)) (fp : List Addr), FG (X.blk s H scope (compEnvC scope cl C X.env) fp) cm tg is h) (ht : ∀ (s : Shared) (H : Hp) (C : Addr) (cl : List (Str × Addr)) (fp : List Addr), FTs (X.blk s H scope (compEnvC scope cl C X.env) fp) cm ifs g)
    (he : ∀ (s : Shared) (H : Hp) (C : Addr) (cl : List (Str × Addr)) (fp : List Addr), FE (X.blk s H scope (compEnvC scope cl C X.env) fp) cm elt el) (hsub : ∀ i ∈ is, i ∈ own.map (·.2)) (hs : ∀ x, foldedSetIterable iter X.env x = pure x := by intro _; rfl) :
    FN X cm (.ListComp elt [⟨tg, iter, ifs, 0⟩] scope pos) (nLc (own.map (·.2)) (iKey i) h g el) :=
  ((pe_lock (pe_lc hc hN (pi_keys ho) ok hg ht he hs)).or (pe_lc hc hN (pi_keys ho) ok hg ht he hs)).imp fun σ H Q ⟨C, A, ρ, t, ρ', R, q, k⟩ => by
    unfold nLc iKey at q
    simp only [Option.bind_eq_some_iff, Option.map_eq_some_iff] at q
    obtain ⟨⟨ds, ρ1⟩, ⟨⟨kvs, ρ1'⟩, h0, h0'⟩, q⟩ := q
    cases h0'
    dsimp only at q
    split at q
    rotate_left
    · cases q
    rename_i hbig
    simp only [Option.bind_eq_some_iff, Option.map_eq_some_iff] at q
    obtain ⟨ρw, h2, ⟨all, ρ2⟩, h3, h4⟩ := q
    cases h4
    obtain ⟨A1, d, ks, l1, R1, hv, hd, hn, hk⟩ := dicS_ok R h0
    rcases hd with hd | ⟨od, hd⟩
    · refine .inl ⟨d, .dK ks, hd, trivial, fun od => ?_⟩
      have s : Sw d ks H (upd H d (.frz od (.dK ks))) := ⟨.inl hd, .inr ⟨od, upd_same⟩, fun x q => upd_ne q⟩
      have R2 := R1.sw (o := .frz od (.dK ks)) s hn
      refine tLc_core (C := C.sw d (.frz od (.dK ks))) (A := A1) hsub (fun R' hR => ⟨_, hv, d, od, rfl, .inl ⟨ks, upd_same, hR _ _ A1 _ (.refl _ _) R2 it_keys ⟨upd_same, hn, hk.sw s⟩⟩⟩) hbig h2 h3 fun v H' A' F l2 R3 rt hnd hF => ?_
      have hd' : H' d = some (.frz od (.dK ks)) := l2.l.st _ _ upd_same pl_frz.1 hn
      have hn' : ¬ A' d := (l2.l.rd (.inl upd_same) hn).2
      have s' : Sw d ks H' (upd H' d (.dK ks)) := ⟨.inr ⟨od, hd'⟩, .inl upd_same, fun x q => upd_ne q⟩
      refine ⟨hd', k v _ A' F (l1.trans (Lt.unsw (ks := ks) hd hn (fun z => hn (R1.out d z)) l2)) (R3.unsw s' hn' fun x e tn np => ?_) (rt.sw s' fun m => hn' (hF d m).2.1) hnd fun a m => ⟨sw_none.mp (hF a m).1, (hF a m).2⟩⟩
      have := R1.fr d x e tn np
      rw [hd] at this; cases this; rfl
    · refine .inr (tLc_core (C := C) (A := A1) hsub (fun R' hR => ⟨_, hv, d, od, rfl, .inl ⟨ks, hd, hR _ _ A1 _ (.refl _ _) R1 it_keys ⟨hd, hn, hk⟩⟩⟩) hbig h2 h3 fun v H' A' F l2 R3 rt hnd hF => k v H' A' F (l1.trans l2) R3 rt hnd hF)

/-! ### d.get(k, x) -/
def cGet2 (d k x : D) : Option D := match d with
  | .dic kvs => (k.k?).map fun kk => (lookK kvs kk).getD x
  | _ => none
def eGet2 (f g h : Em) : Em := fun ρ => (f ρ).bind fun p => (rd p.2 p.1).bind fun d0 => match d0 with
  | .dic _ => (g p.2).bind fun q => (h q.2).bind fun r => (rd r.2 p.1).bind fun d => (rd r.2 q.1).bind fun k => (pu r.2 r.1).bind fun x => (cGet2 d k x).map fun z => (.val z, r.2)
  | _ => none
theorem RpK.get {K : PySem.W.Frag} {A : AS} {H : Hp} {ks : List (Key × V)} {kvs : List (DK × D)} (r : RpK K cm A H ks kvs) (k : DK) {x : V} {dx : D} (hx : Rp K cm A H x dx) : Rp K cm A H ((valV ks k.k).getD x) ((lookK kvs k).getD dx) := by
  cases q : lookK kvs k with
  | none => rw [r.lookN q]; exact hx
  | some d =>
    obtain ⟨v, e, rp⟩ := r.look q
    rw [e]; exact rp
theorem fe_get2 {f g h : Em} {o k x : Expr} {apos cpos : Pos} (hu : X.A.units + 1 < cLine) (ho : FE X cm o f) (hk : FE X cm k g) (hx : FE X cm x h) (m : M2 X o "get" apos k x cpos) : FE X cm (.Call (.Attribute o "get" apos) [k, x] [] cpos) (eGet2 f g h) :=
  (pe_dget2 hu ho hk hx m).imp fun σ H Q ⟨C, A, ρ, t, ρ', R, q, kk⟩ => by
    unfold eGet2 at q
    simp only [Option.bind_eq_some_iff] at q
    obtain ⟨⟨p, ρ1⟩, h1, d0, h2, q⟩ := q
    dsimp only at q
    split at q
    rotate_left
    · cases q
    simp only [Option.bind_eq_some_iff, Option.map_eq_some_iff] at q
    obtain ⟨⟨q1, ρ2⟩, h3, ⟨r1, ρ3⟩, h4, d, h5, kd, h6, xd, h7, z, h8, h9⟩ := q
    cases h9
    refine ⟨C, A, ρ, p, ρ1, R, h1, fun v H1 A1 l1 R1 w1 => ?_⟩
    obtain ⟨a, ks0, rfl, hs0, _⟩ := (rd_ok R1 w1 h2).di
    refine ⟨a, rfl, .inl ⟨ks0, hs0⟩, C, A1, ρ1, q1, ρ2, R1, h3, fun y H2 A2 l2 R2 w2 => ⟨C, A2, ρ2, r1, ρ3, R2, h4, fun z' H3 A3 l3 R3 w3 => ?_⟩⟩
    have ro := rd_ok R3 ((w1.later l2).later l3) h5
    unfold cGet2 at h8
    split at h8
    · rw [Option.map_eq_some_iff] at h8
      obtain ⟨kk', e1, rfl⟩ := h8
      obtain ⟨a', ks, e, hs, rk⟩ := ro.di
      cases e
      have hy : y = kV kk'.k := by
        cases kd <;> cases e1
        · exact (rd_ok R3 (w2.later l3) h6).int
        · exact (rd_ok R3 (w2.later l3) h6).str
      exact ⟨_, .inl ⟨ks, kk'.k, hs, hy, rfl⟩, kk _ H3 A3 ((l1.trans l2).trans l3) R3 (rk.get kk' (pu_ok R3 w3 h7))⟩
    · cases h8

/-! ### enumerate of a list -/
def enumD (ds : List D) : List D := ds.zipIdx.map fun p => .tup [.int (p.2 : Nat), p.1]
def iEnu (g : Am) : Im := fun ρ => (g ρ).bind fun p => (pus p.2 p.1).bind fun es => match es with
  | [.lst ds] => some (enumD ds, p.2)
  | _ => none
theorem it_enum {K : PySem.W.Frag} {a : Addr} {ds : List D} : ItOk K cm (Ite K a) (fun A H => ∃ xs, SL K A H a xs ∧ RpL K cm A H xs ds) (enumD ds) where
  stay := fun _ _ _ _ ⟨xs, s, r⟩ l => ⟨xs, s.later l, r.later l⟩
  go := fun A H i ⟨xs, s, r⟩ h => by
    have h' : i < xs.length := by rw [r.length]; simpa [enumD] using h
    exact ⟨xs, xs[i], s.sq, List.getElem?_eq_getElem h'⟩
  yld := fun A H i x H' d ⟨xs, s, r⟩ hdom e hy => by
    obtain ⟨T, y, rfl, hT, rfl, hx⟩ := hy
    simp only [enumD, List.getElem?_map, Option.map_eq_some_iff] at e
    obtain ⟨⟨d', j⟩, e1, rfl⟩ := e
    rw [List.getElem?_zipIdx] at e1
    simp only [Option.map_eq_some_iff, Nat.zero_add] at e1
    obtain ⟨d'', e2, e3⟩ := e1
    cases e3
    obtain ⟨v, h1, h2⟩ := r.get e2
    have := hx xs s.sq
    rw [h1] at this; cases this
    exact ⟨same_new hT, new_tup hdom hT (.cons (.int _) (.one h2))⟩
  stop := fun A H i ⟨xs, s, r⟩ h => ⟨xs, s.sq, by rw [r.length]; simpa [enumD] using h⟩
theorem fi_enum {g : Am} {p tpos : Pos} {elts : List Expr} {kk : Nat} (hg : Gl X "enumerate") (hm : X.mg "enumerate" = none) (ha : FA X cm [e] g) (hs : starEach [e] X.env = [(false, eval e X.env)] := by rfl) : FI X cm (.Tuple elts kk tpos) (.Call (.Name "enumerate" p) [e] [] pos) (iEnu g) :=
  (pi_enum hg hm ha hs).imp fun σ H R ⟨C, A, ρ, ds, ρ', RS0, q, k⟩ => by
    unfold iEnu at q
    simp only [Option.bind_eq_some_iff] at q
    obtain ⟨⟨rs, ρ1⟩, h1, es, h2, h3⟩ := q
    refine ⟨C, A, ρ, rs, ρ1, RS0, h1, fun vs H1 A1 l1 R1 w1 => ?_⟩
    have r := pus_ok R1 w1 h2
    dsimp only at h3
    split at h3
    · cases h3
      cases r with
      | cons r1 r => cases r with
        | nil => cases r1 with
          | lst s rl => exact ⟨_, _, rfl, s.sq, k _ H1 A1 _ l1 R1 it_enum ⟨_, s, rl⟩⟩
    · cases h3
end
end G

/-! Ly14: lists of things that may be one's own; stores to several names; fresh arguments. -/
namespace G
open PySem PySem.Spec L2

section
variable (K : PySem.W.Frag) (cm : Cm)
def RTL (A : AS) (H : Hp) : List V → List T → List Addr → Prop
  | [], [], F => F = []
  | v :: vs, t :: ts, F => ∃ F1 F2, F = F1 ++ F2 ∧ RT K cm A H v t F1 ∧ RTL A H vs ts F2
  | _, _, _ => False
abbrev Mm := Rho → Option (List T × Rho)
def tM (f : Mm) : TA := fun σ H Q => ∃ C A ρ t ρ', RS K cm C A [] σ H ρ ∧ f ρ = some (t, ρ') ∧
  ∀ v H' A' F, Lt C A H A' H' → RS K cm C A' F σ H' ρ' → RTL K cm A' H' v t F → F.Nodup → (∀ a ∈ F, C.H0 a = none ∧ A' a ∧ ¬ C.A0 a) → Q v H'
end
def Fc.plusL (C : Fc) (F : List Addr) : Fc := { C with A0 := fun a => C.A0 a ∨ a ∈ F }
section
variable {K : PySem.W.Frag} {cm : Cm} {A A' : AS} {H H' : Hp} {C : Fc} {σ : L2.St} {ρ ρ' : Rho} {Y F : List Addr}
theorem RS.plusL (R : RS K cm C A F σ H ρ) (hp : ∀ a ∈ F, A a) : RS K cm (C.plusL F) A [] σ H ρ := by
  obtain ⟨G', h1, h2, h3, h4, h5⟩ := R.sl
  refine ⟨R.len, ⟨G', h1, h2, fun i a m => ⟨(h3 i a m).1, fun z => z.elim (h3 i a m).2.1 (h3 i a m).2.2, fun z => nomatch z⟩, h4, fun i s e => h5 i s e⟩, fun a z => z.elim (R.out a) (hp a), fun a z => (R.sub a z).imp_left .inl, R.dom, R.fr, R.fd, R.tb, R.ne⟩
theorem RS.minusL (R : RS K cm (C.plusL F) A Y σ H ρ) (h0 : ∀ a ∈ F, C.H0 a = none) : RS K cm C A (F ++ Y) σ H ρ := by
  obtain ⟨G', h1, h2, h3, h4, h5⟩ := R.sl
  refine ⟨R.len, ⟨G', h1, h2, fun i a m => ⟨(h3 i a m).1, fun z => (h3 i a m).2.1 (.inl z), fun z => ?_⟩, h4, fun i s e => h5 i s e⟩, fun a z => R.out a (.inl z), fun a z => ?_, R.dom, R.fr, R.fd, R.tb, R.ne⟩
  · rcases List.mem_append.mp z with q | q
    · exact (h3 i a m).2.1 (.inr q)
    · exact (h3 i a m).2.2 q
  · rcases R.sub a z with (q | q) | q
    · exact .inl q
    · exact .inr (.inr (h0 a q))
    · exact .inr q
theorem Lt.of_plusL (l : Lt (C.plusL F) A H A' H') : Lt C A H A' H' := ⟨l.l, fun a o z e t => l.o a o (.inl z) e t⟩
theorem RTL.later : ∀ {vs : List V} {ts : List T} {F : List Addr}, Later A H A' H' → (∀ a ∈ F, ∀ o, H a = some o → NT o → H' a = some o) → RTL K cm A H vs ts F → RTL K cm A' H' vs ts F
  | [], [], F, _, _, h => h
  | v :: vs, t :: ts, F, l, k, h => by
    obtain ⟨F1, F2, rfl, h1, h2⟩ := h
    exact ⟨F1, F2, rfl, h1.later l fun a m => k a (by simp [m]), h2.later l fun a m => k a (by simp [m])⟩
  | [], _ :: _, _, _, _, h => h.elim
  | _ :: _, [], _, _, _, h => h.elim
/-- a slot is filled, other things staying aside -/
theorem RS.setY {i : Nat} {v : V} {t : T} (R : RS K cm C A (F ++ Y) σ H ρ) (hi : ∃ s, ρ[i]? = some s ∧ ∀ t, s ≠ .pin t) (h : RT K cm A H v t F) (hn : (F ++ Y).Nodup) (hF : ∀ a ∈ F, C.H0 a = none ∧ A a ∧ ¬ C.A0 a) :
    RS K cm C A Y (σ.set i (some v)) H (ρ.set i (.v t)) := by
  obtain ⟨G', h1, h2, h3, h4, h5⟩ := R.sl
  obtain ⟨s0, hs0, _⟩ := hi
  have hil : i < ρ.length := (List.getElem?_eq_some_iff.mp hs0).1
  rw [List.nodup_append] at hn
  refine ⟨by rw [List.length_set, List.length_set]; exact R.len, ⟨fun j => if j = i then F else G' j, fun j => ?_, fun j k a m m' => ?_, fun j a m => ?_, fun j e => ?_, fun j s e => ?_⟩, R.out, R.sub, R.dom, R.fr, R.fd, R.tb, R.ne⟩
  · dsimp only; split
    · exact hn.1
    · exact h1 j
  · dsimp only at m m'
    by_cases hj : j = i <;> by_cases hk : k = i
    · rw [hj, hk]
    · rw [if_pos hj] at m; rw [if_neg hk] at m'
      exact absurd (by simp [m]) (h3 k a m').2.2
    · rw [if_neg hj] at m; rw [if_pos hk] at m'
      exact absurd (by simp [m']) (h3 j a m).2.2
    · rw [if_neg hj] at m; rw [if_neg hk] at m'
      exact h2 j k a m m'
  · dsimp only at m
    by_cases hj : j = i
    · rw [if_pos hj] at m
      exact ⟨(hF a m).2.1, (hF a m).2.2, fun z => hn.2.2 a m a z rfl⟩
    · rw [if_neg hj] at m
      exact ⟨(h3 j a m).1, (h3 j a m).2.1, fun z => (h3 j a m).2.2 (by simp [z])⟩
  · dsimp only
    by_cases hj : j = i
    · subst hj
      rw [List.getElem?_set_self hil] at e; cases e
    · rw [if_neg hj]
      rw [List.getElem?_set_ne (Ne.symm hj)] at e
      exact h4 j e
  · dsimp only
    by_cases hj : j = i
    · subst hj
      rw [List.getElem?_set_self hil] at e; cases e
      refine ⟨some v, ?_, ?_⟩
      · rw [List.getElem?_set_self (by rw [R.len]; exact hil)]
      · rw [if_pos rfl]
        exact ⟨v, rfl, h, fun a m => (hF a m).1⟩
    · rw [if_neg hj]
      rw [List.getElem?_set_ne (Ne.symm hj)] at e
      obtain ⟨o, e1, r⟩ := h5 j s e
      refine ⟨o, by rw [List.getElem?_set_ne (Ne.symm hj)]; exact e1, ?_⟩
      exact r
end
def mNil : Mm := fun ρ => some ([], ρ)
def mCons (f : Rho → Option (T × Rho)) (g : Mm) : Mm := fun ρ => (f ρ).bind fun p => (g p.2).map fun q => (p.1 :: q.1, q.2)
section
variable {X : Cx} {cm : Cm} {pos pos' : Pos} {e a b c tg iter : Expr} {es : List Expr}
abbrev FM (X : Cx) (cm : Cm) (es : List Expr) (f : Mm) : Prop := PA X es (tM X.K cm f)
theorem fm_nil : FM X cm [] mNil := pa_nil.imp fun σ H Q ⟨C, A, ρ, t, ρ', R, q, k⟩ => by
  cases q
  exact k [] H A [] (.refl A H) R rfl .nil fun a m => nomatch m
theorem fm_cons {f : Rho → Option (T × Rho)} {g : Mm} (ha : FN X cm e f) (hr : FM X cm es g) (hs : starEach (e :: es) X.env = (false, eval e X.env) :: starEach es X.env := by rfl) : FM X cm (e :: es) (mCons f g) :=
  (pa_cons ha hr hs).imp fun σ H Q ⟨C, A, ρ, t, ρ', R, q, k⟩ => by
    simp only [mCons, Option.bind_eq_some_iff, Option.map_eq_some_iff] at q
    obtain ⟨⟨t1, ρ1⟩, h1, ⟨ts, ρ2⟩, h2, h3⟩ := q
    cases h3
    refine ⟨C, A, ρ, t1, ρ1, R, h1, fun v H1 A1 F1 l1 R1 rt1 n1 hF1 => ⟨C.plusL F1, A1, ρ1, ts, ρ2, R1.plusL fun a m => (hF1 a m).2.1, h2, fun vs H2 A2 F2 l2 R2 rt2 n2 hF2 => ?_⟩⟩
    refine k _ H2 A2 (F1 ++ F2) (l1.trans l2.of_plusL) (R2.minusL fun a m => (hF1 a m).1) ⟨F1, F2, rfl, rt1.later l2.l fun a m o q => l2.o a o (.inr m) q, rt2⟩ ?_ fun a m => ?_
    · rw [List.nodup_append]
      exact ⟨n1, n2, fun a m b m' z => (hF2 b m').2.2 (.inr (by rw [← z]; exact m))⟩
    · rcases List.mem_append.mp m with m | m
      · exact ⟨(hF1 a m).1, R2.out a (.inr m), (hF1 a m).2.2⟩
      · exact ⟨(hF2 a m).1, (hF2 a m).2.1, fun z => (hF2 a m).2.2 (.inl z)⟩
/-- the slots filled from the left -/
def setVs : List Nat → List T → Rho → Option Rho
  | [], [], ρ => some ρ
  | i :: is, t :: ts, ρ => (setV i t ρ).bind fun ρ1 => setVs is ts ρ1
  | _, _, _ => none
def setAll : List Nat → List V → L2.St → L2.St
  | i :: is, v :: vs, σ => setAll is vs (σ.set i (some v))
  | _, _, σ => σ
def sPars (is : List Nat) (g : Mm) : Sm := fun ρ => (g ρ).bind fun p => (setVs is p.1 p.2).map .nx
theorem RS.setVs {K : PySem.W.Frag} {A : AS} {H : Hp} {C : Fc} : ∀ {is : List Nat} {ts : List T} {vs : List V} {F : List Addr} {σ : L2.St} {ρ ρ' : Rho}, RS K cm C A F σ H ρ → G.setVs is ts ρ = some ρ' → RTL K cm A H vs ts F → F.Nodup → (∀ a ∈ F, C.H0 a = none ∧ A a ∧ ¬ C.A0 a) →
    vs.length = is.length ∧ RS K cm C A [] (setAll is vs σ) H ρ'
  | [], [], [], F, σ, ρ, ρ', R, q, rt, _, _ => by
    cases q
    cases rt
    exact ⟨rfl, R⟩
  | [], [], _ :: _, _, _, _, _, _, _, rt, _, _ => rt.elim
  | [], _ :: _, _, _, _, _, _, _, q, _, _, _ => nomatch q
  | _ :: _, [], _, _, _, _, _, _, q, _, _, _ => nomatch q
  | _ :: _, _ :: _, [], _, _, _, _, _, _, rt, _, _ => rt.elim
  | i :: is, t :: ts, v :: vs, F, σ, ρ, ρ', R, q, rt, n, hF => by
    simp only [G.setVs, Option.bind_eq_some_iff] at q
    obtain ⟨ρ1, q1, q2⟩ := q
    obtain ⟨F1, F2, rfl, rt1, rt2⟩ := rt
    obtain ⟨hs, rfl⟩ := setV_some q1
    have R1 := R.setY hs rt1 n fun a m => hF a (by simp [m])
    rw [List.nodup_append] at n
    obtain ⟨h1, h2⟩ := RS.setVs R1 q2 rt2 n.2.1 fun a m => hF a (by simp [m])
    exact ⟨by simp [h1], h2⟩
theorem tM_par {K : PySem.W.Frag} {is : List Nat} {g : Mm} {D : Ends} {σ : L2.St} {H : Hp} (h : tS K cm (sPars is g) D σ H) : tM K cm g σ H (fun vs H1 => vs.length = is.length ∧ D.nx (setAll is vs σ) H1) := by
  obtain ⟨C, A, ρ, o, R, q, k⟩ := h
  simp only [sPars, Option.bind_eq_some_iff, Option.map_eq_some_iff] at q
  obtain ⟨⟨ts, ρ1⟩, h1, ρ2, h2, h3⟩ := q
  cases h3
  refine ⟨C, A, ρ, ts, ρ1, R, h1, fun vs H1 A1 F l1 R1 rt n hF => ?_⟩
  obtain ⟨e, R2⟩ := R1.setVs h2 rt n hF
  exact ⟨e, k _ H1 A1 l1 R2⟩
theorem tM_mono {K : PySem.W.Frag} {g : Mm} {σ : L2.St} {H : Hp} {Q Q' : List V → Hp → Prop} (h : tM K cm g σ H Q) (i : ∀ v H, Q v H → Q' v H) : tM K cm g σ H Q' := by
  obtain ⟨C, A, ρ, t, ρ', R, q, k⟩ := h
  exact ⟨C, A, ρ, t, ρ', R, q, fun v H' A' F l R rt n hF => i _ _ (k v H' A' F l R rt n hF)⟩
theorem fs_pars2 {i j : Nat} {x y : Str} {g : Mm} {px py pt : Pos} {kt k2 : Nat} {pt2 : Pos} (hc : X.calm = true) (hN : X.N.Nodup) (hi : X.N[i]? = some x) (hj : X.N[j]? = some y) (hij : i ≠ j) (ha : FM X cm [a, b] g)
    (hx : X.env.scope.names.lookup x = some .local) (hy : X.env.scope.names.lookup y = some .local) (hw : swappedStores [.Tuple [.Name x px, .Name y py] kt pt] (.Tuple [a, b] k2 pt2) X.env = pure (some [x, y]) := by rfl) :
    FS X cm (.Assign [.Tuple [.Name x px, .Name y py] kt pt] (.Tuple [a, b] k2 pt2) pos) (sPars [i, j] g) := (ps_par hc hN hi hj hij hx hy ha hw).imp fun D σ H q => by
  refine tM_mono (tM_par q) fun vs H1 ⟨e, k⟩ => ?_
  match vs, e, k with
  | [v, w], _, k => exact ⟨v, w, rfl, k⟩
theorem fs_pars3 {i j l : Nat} {x y z : Str} {g : Mm} {px py pz pt : Pos} {kt k2 : Nat} {pt2 : Pos} (hc : X.calm = true) (hN : X.N.Nodup) (hi : X.N[i]? = some x) (hj : X.N[j]? = some y) (hl : X.N[l]? = some z) (hij : i ≠ j) (hil : i ≠ l) (hjl : j ≠ l) (ha : FM X cm [a, b, c] g)
    (hx : X.env.scope.names.lookup x = some .local) (hy : X.env.scope.names.lookup y = some .local) (hz : X.env.scope.names.lookup z = some .local) (hw : swappedStores [.Tuple [.Name x px, .Name y py, .Name z pz] kt pt] (.Tuple [a, b, c] k2 pt2) X.env = pure (some [x, y, z]) := by rfl) :
    FS X cm (.Assign [.Tuple [.Name x px, .Name y py, .Name z pz] kt pt] (.Tuple [a, b, c] k2 pt2) pos) (sPars [i, j, l] g) := (ps_par3 hc hN hi hj hl hij hil hjl hx hy hz ha hw).imp fun D σ H q => by
  refine tM_mono (tM_par q) fun vs H1 ⟨e, k⟩ => ?_
  match vs, e, k with
  | [u, v, w], _, k => exact ⟨u, v, w, rfl, k⟩
/-- four names and more: through the tuple -/
def gNs (is : List Nat) : TGs := fun vs σ H Q => vs.length = is.length ∧ Q (setAll is vs σ) H
theorem pgn_nil : PGs X [] (gNs []) := pgs_nil.imp fun vs σ H Q ⟨e, q⟩ => by
  cases vs with
  | nil => exact ⟨rfl, q⟩
  | cons _ _ => cases e
theorem pgn_cons {i : Nat} {is : List Nat} (h1 : PG X e (gName i)) (h2 : PGs X es (gNs is)) (hs : (assignEach (e :: es) X.env).map (·.2) = assign e X.env :: (assignEach es X.env).map (·.2) := by rfl) : PGs X (e :: es) (gNs (i :: is)) :=
  (pgs_cons h1 h2 hs).imp fun vs σ H Q ⟨e, q⟩ => by
    cases vs with
    | nil => cases e
    | cons v vs => exact ⟨v, vs, rfl, by simpa using e, q⟩
theorem fs_parsT {is : List Nat} {g : Mm} {ts : List Expr} {k1 k2 : Nat} {p1 p2 : Pos} (hc : X.calm = true) (ha : FM X cm es g) (hg : PGs X ts (gNs is)) (hn : (assignEach ts X.env).length = is.length := by rfl) (hst : (assignEach ts X.env).findIdx? (·.1) = none := by rfl) (hbig : is.length ≤ sizeLine := by decide)
    (hs : swapsWithSole [.Tuple ts k1 p1] (.Tuple es k2 p2) pos.line X.env = pure false := by rfl) (hw : swappedStores [.Tuple ts k1 p1] (.Tuple es k2 p2) X.env = pure none := by rfl) (h1 : (assignEach [.Tuple ts k1 p1] X.env).map (·.2) = [assign (.Tuple ts k1 p1) X.env] := by rfl) :
    FS X cm (.Assign [.Tuple ts k1 p1] (.Tuple es k2 p2) pos) (sPars is g) := (ps_asg (pe_tup ha) (pg_tup hc hg hn hst) hs hw h1).imp fun D σ H q => by
  obtain ⟨C, A, ρ, o, R, q, k⟩ := q
  simp only [sPars, Option.bind_eq_some_iff, Option.map_eq_some_iff] at q
  obtain ⟨⟨ts, ρ1⟩, h1, ρ2, h2, h3⟩ := q
  cases h3
  refine ⟨C, A, ρ, ts, ρ1, R, h1, fun vs H1 A1 F l1 R1 rt n hF => ?_⟩
  obtain ⟨e, _⟩ := R1.setVs h2 rt n hF
  refine ⟨by rw [e]; exact hbig, fun p hp => ⟨p, vs, rfl, .inl (.inl upd_same), e, e, ?_⟩⟩
  have g := same_new (o := .tup vs) hp
  have R2 := R1.grow g
  obtain ⟨_, R3⟩ := R2.setVs h2 (rt.later (.same g) fun a _ o q _ => g a o q) n hF
  exact k _ _ A1 (l1.trans (.same g)) R3
end

/-! ### a call whose one argument is fresh -/
section
variable {K : PySem.W.Frag} {cm : Cm} {A A' : AS} {H H' : Hp} {C : Fc} {σ : L2.St} {ρ ρ' : Rho} {F0 : List Addr}
theorem RS.argF {v : V} {t : T} (R : RS K cm C A F0 σ H ρ) (r : RT K cm A H v t F0) (n : F0.Nodup) (hF : ∀ a ∈ F0, C.H0 a = none ∧ A a ∧ ¬ C.A0 a) : RS K cm (cIn H (fun a => a ∈ F0) A [v]) A [] [some v] H [.pin t] := by
  refine ⟨rfl, ⟨fun i => if i = 0 then F0 else [], fun i => ?_, fun i j a m m' => ?_, fun i a m => ?_, fun i e => ?_, fun i s e => ?_⟩, fun a z => z.1, fun a z => ?_, R.dom, fun _ _ e _ _ => e, fun _ e => e, R.tb, R.ne⟩
  · dsimp only; split
    · exact n
    · exact .nil
  · dsimp only at m m'
    split at m <;> split at m' <;> first | omega | (exact absurd m (by simp)) | (exact absurd m' (by simp))
  · dsimp only at m
    split at m
    · exact ⟨(hF a m).2.1, fun z => z.2 m, fun z => nomatch z⟩
    · cases m
  · dsimp only
    split
    · rename_i z; rw [z] at e; cases e
    · rfl
  · cases i with
    | zero =>
      cases e
      exact ⟨some v, rfl, v, rfl, rfl, r, fun a m => .inl m⟩
    | succ i => cases e
  · by_cases q : a ∈ F0
    · exact .inr (.inl q)
    · exact .inl ⟨z, q⟩
theorem RS.afterF {σ' : L2.St} {ss : Rho} {vs : List V} {F : List Addr} (R : RS K cm C A F0 σ H ρ) (hF0 : ∀ a ∈ F0, C.H0 a = none ∧ A a ∧ ¬ C.A0 a) (l : Lt (cIn H (fun a => a ∈ F0) A vs) A H A' H') (R' : RS K cm (cIn H (fun a => a ∈ F0) A vs) A' F σ' H' ss)
    (hF : ∀ a ∈ F, H a = none ∧ A' a ∧ ¬ (cIn H (fun a => a ∈ F0) A vs).A0 a) : Lt C A H A' H' ∧ RS K cm C A' F σ H' ρ ∧ ∀ a ∈ F, C.H0 a = none ∧ A' a ∧ ¬ C.A0 a := by
  have kept : ∀ a o, A a → a ∉ F0 → H a = some o → NT o → H' a = some o := fun a o z n e t => l.o a o ⟨z, n⟩ e t
  have inA : ∀ a, A a → a ∉ F0 → A' a := fun a z n => R'.out a ⟨z, n⟩
  have nF0 : ∀ a, C.A0 a → a ∉ F0 := fun a z m => (hF0 a m).2.2 z
  refine ⟨⟨l.l, fun a o z e t => kept a o (R.out a z) (nF0 a z) e t⟩, ?_, fun a m => ⟨R.new0 (hF a m).1, (hF a m).2.1, fun z => (hF a m).2.2 ⟨R.out a z, nF0 a z⟩⟩⟩
  obtain ⟨Fs, h1, h2, h3, h4, h5⟩ := R.sl
  refine ⟨R.len, ⟨Fs, h1, h2, fun i a m => ⟨inA a (h3 i a m).1 (h3 i a m).2.2, (h3 i a m).2.1, fun z => R.dom a (h3 i a m).1 (hF a z).1⟩, h4, fun i s e => ?_⟩, fun a z => inA a (R.out a z) (nF0 a z), fun a z => ?_, R'.dom, fun a o e t n => R'.fr a o (R.fr a o e t n) t (fun m => ?_), fun a z => R'.fd a (R.fd a z), R'.tb, R'.ne⟩
  · obtain ⟨o, e1, r⟩ := h5 i s e
    exact ⟨o, e1, r.keep l.l fun a m o q t => kept a o (h3 i a m).1 (h3 i a m).2.2 q t⟩
  · rcases R'.sub a z with q | q | q
    · exact R.sub a q.1
    · exact .inr (.inr (hF0 a q).1)
    · exact .inr (.inr (R.new0 q))
  · rw [(hF0 a m).1] at e; cases e
def nCallF (f : Rho → Option (T × Rho)) (g : Rho → Option (T × Rho)) : Rho → Option (T × Rho) := fun ρ => (g ρ).bind fun p => (f [.pin p.1]).map fun r => (r.1, p.2)
theorem tN_callF {m : Rho → Option (T × Rho)} {g : Rho → Option (T × Rho)} {Q : VK} {E : XK} (h : tN K cm (nCallF m g) σ H Q) : tCall (spG K cm 1 m) [] E (tM K cm (mCons g mNil)) σ H Q := by
  obtain ⟨C, A, ρ, t, ρ', R, q, kk⟩ := h
  simp only [nCallF, Option.bind_eq_some_iff, Option.map_eq_some_iff] at q
  obtain ⟨⟨t1, ρ1⟩, h1, ⟨t', ss'⟩, h2, h3⟩ := q
  cases h3
  refine ⟨C, A, ρ, [t1], ρ1, R, by simp [mCons, mNil, h1], fun vs H1 A1 F l1 R1 rt n hF => ?_⟩
  match vs, rt with
  | [v], ⟨F1, F2, e, rt, e2⟩ =>
    cases e2
    rw [List.append_nil] at e
    subst e
    refine ⟨rfl, _, A1, _, _, ss', R1.argF rt n hF, h2, fun v H' A' F' σ' lt R' rt' hnd hF' => ?_⟩
    obtain ⟨l2, R2, hF2⟩ := R1.afterF hF lt R' hF'
    exact kk v H' A' F' (l1.trans l2) R2 rt' hnd hF2
  | _ :: _ :: _, ⟨_, _, _, _, q⟩ => exact q.elim
  | [], q => exact q.elim
end
section
variable {X : Cx} {cm : Cm} {pos p : Pos} {e : Expr} {es : List Expr}
theorem fn_callF {p1 : Str} {k j : Nat} {x : Str} {m : Rho → Option (T × Rho)} {g : Rho → Option (T × Rho)} (D : Dg X.prog X.w X.K X.mg X.base cm k x [p1] m) (hr : Room j X.A) (hk : k ≤ j) (hg : Gl X x) (ha : FN X cm e g)
    (hdb : (x == ("__debug__" : Str)) = false := by decide) (he : starEach [e] X.env = (false, eval e X.env) :: starEach [] X.env := by rfl) (hpl : (backTo pos (starEach ([] : List Expr) X.env)).any (·.1) = false := by rfl) :
    FN X cm (.Call (.Name x p) [e] [] pos) (nCallF m g) := by
  obtain ⟨f, fd, F, hm, hkp, hb⟩ := D
  exact (pe_call F (hr.mono hk) hg hm hkp hb .nil pass0 (fm_cons ha fm_nil he) hdb he hpl).imp fun σ H Q q => tN_callF q
end

/-! ### defs as the top has written them -/
structure Dn (K : PySem.W.Frag) (mg : Str → Option Value) (x : Str) (st : Stmt) (ps : List Str) (f : Addr) (fd : FuncData) : Prop where
  F : Fun K x x st f fd
  m : mg x = some (.ref f)
  bb : ∀ us : List Value, us.length = ps.length → bindArgs fd ⟨us, []⟩ = pure (ps.zip us)
theorem Dn.b {K : PySem.W.Frag} {mg : Str → Option Value} {x : Str} {st : Stmt} {ps : List Str} {f : Addr} {fd : FuncData} (D : Dn K mg x st ps f fd) : Binds K fd ps [] := .all D.bb
section
variable {P : Program} {w : World} {K : PySem.W.Frag} {mg : Str → Option Value} {base : Heap} {cm : Cm}
theorem Dn.dg {x : Str} {st : Stmt} {f : Addr} {fd : FuncData} {N ps : List Str} {k : Nat} {g : Sm} (D : Dn K mg x st ps f fd) (S : FnScope N ps (defScope st))
    (hb : ∀ (cdv : Value) (A : Around) (outer : List Env) (s : Shared) (H : Hp) (E : XK), Room k (A.deeper (PyProof.Rows.envOfC x (defScope st) s.heap.objs.size f cdv)) → FSs (cxOf CX0 P w K mg base N x (defScope st) f cdv A outer s H E).nox cm (defBody st) g) :
    Dg P w K mg base cm (k + 1) x ps (runD (N.length - ps.length) g) := ⟨f, fd, fd_ok D.F S hb, D.m, D.F.kp, D.b⟩
theorem Dn.none {x : Str} {st : Stmt} {f : Addr} {fd : FuncData} {ps : List Str} {k : Nat} (D : Dn K mg x st ps f fd) : Dg P w K mg base cm k x ps (fun _ => none) := ⟨f, fd, fd_none, D.m, D.F.kp, D.b⟩
theorem dn_mk {h : Heap} (X : K.In h) (G : h.Ns mainGlobals mg) {x : Str} {st : Stmt} {ps : List Str} {f : Addr} {oc : Value} {od an : Option Addr} {osl : Array (Option Value)} {kV doc pm cdv ct : Value}
    (a : PySem.W.nsIn K mainGlobals x = some (some (.ref f))) (l : K.lookup f = some ⟨oc, od, .func (PySem.W.fnOf x x (defArgs st) (defBody st) (defScope st) .none kV doc pm an cdv ct), osl⟩) (c : PySem.W.codeIn K cdv x = true) (k : PySem.W.keepIn K (.ref f) = true)
    (b : ∀ (kV doc pm : Value) (an : Option Addr) (cdv ct : Value) (us : List Value), us.length = ps.length → bindArgs (PySem.W.fnOf x x (defArgs st) (defBody st) (defScope st) .none kV doc pm an cdv ct) ⟨us, []⟩ = pure (ps.zip us)) :
    ∃ f fd, Dn K mg x st ps f fd := ⟨f, _, fun_mk l c k, PySem.W.mg_of X G a, b _ _ _ _ _ _⟩
end
end G

/-! Ly15: a name's own thing laid down where it is kept; minus. -/
namespace G
open PySem PySem.Spec L2

/-- a name that is kept by another thing: if it is one's own, it is laid down -/
def eKeep (i : Nat) : Em := fun ρ => match ρ[i]? with
  | some (.v (.p d)) => some (.val d, ρ)
  | some (.v t) => some (.val t.d, ρ.set i (.v (.p t.d)))
  | _ => none
def cNeg : D → Option D
  | .int i => some (.int (-i))
  | _ => none
def eUn (c : D → Option D) (f : Em) : Em := fun ρ => (f ρ).bind fun p => (rd p.2 p.1).bind fun d => (c d).map fun z => (.val z, p.2)
section
variable {X : Cx} {cm : Cm} {pos : Pos} {e : Expr}
theorem fe_keep {i : Nat} (h : PE X e (tVar i)) : FE X cm e (eKeep i) := h.imp fun σ H Q ⟨C, A, ρ, r, ρ', R, f, k⟩ => by
  obtain ⟨F, h1, h2, h3, h4, h5⟩ := R.sl
  unfold eKeep at f
  split at f
  · rename_i d q
    cases f
    obtain ⟨o, e1, v, rfl, r, _⟩ := h5 i _ q
    exact ⟨v, e1, k v H A (.refl A H) R r.2⟩
  · rename_i t _ q
    cases f
    obtain ⟨o, e1, v, rfl, r, _⟩ := h5 i _ q
    have e : frzS i ρ = some (ρ.set i (.v (.p t.d))) := by unfold frzS; rw [q]
    obtain ⟨A', l, R'⟩ := R.frz e
    have q2 : (ρ.set i (.v (.p t.d)))[i]? = some (.v (.p t.d)) := List.getElem?_set_self (List.getElem?_eq_some_iff.mp q).1
    obtain ⟨F', _, _, _, _, h5'⟩ := R'.sl
    obtain ⟨o', e1', v', rfl, r', _⟩ := h5' i _ q2
    rw [e1] at e1'; cases e1'
    exact ⟨v, e1, k v H A' l R' r'.2⟩
  · cases f
theorem fe_neg {f : Em} (h : FE X cm e f) : FE X cm (.UnaryOp .USub e pos) (eUn cNeg f) := (pe_un un_neg h).imp fun σ H Q ⟨C, A, ρ, t, ρ', R, q, k⟩ => by
  simp only [eUn, Option.bind_eq_some_iff, Option.map_eq_some_iff] at q
  obtain ⟨⟨r, ρ1⟩, h1, d, h2, z, h3, h4⟩ := q
  cases h4
  refine ⟨C, A, ρ, r, _, R, h1, fun v H1 A1 l1 R1 w1 => ?_⟩
  have ro := rd_ok R1 w1 h2
  cases d <;> cases h3
  cases ro.int
  exact ⟨_, rfl, k _ H1 A1 l1 R1 (.int _)⟩
/-- a name of the module that nobody changes -/
def KC (K : PySem.W.Frag) (cm : Cm) (mg : Str → Option Value) (x : Str) (d : D) : Prop := ∃ u v, mg x = some u ∧ RelV v u ∧ ∀ A H, Rp K cm A H v d
theorem KC.fe {x : Str} {d : D} (h : KC X.K cm X.mg x d) (hg : Gl X x) (hd : (x == ("__debug__" : Str)) = false := by decide) : FE X cm (.Name x pos) (eC d) := by
  obtain ⟨u, v, hm, r, h⟩ := h
  exact fe_c (pe_glob hg hm r hd) h
end
end G

/-! Ly16: the law's own end; mirrors applied. -/
namespace G
open PySem PySem.Spec L2

theorem only_args {K : PySem.W.Frag} {cm : Cm} {H : Hp} {a : Addr} {ns : List Int} (h : SqL K H a (ns.map V.int)) (ht : LamX.Tabs cm.T H) : RS K cm (cIn H (fun _ => False) (fun _ => False) [.ref a]) (fun _ => False) [] [some (.ref a)] H [.v (.p (.lst (ns.map D.int)))] := by
  refine ⟨rfl, ⟨fun _ => [], fun _ => .nil, fun _ _ _ m => (nomatch m), fun _ _ m => (nomatch m), fun _ _ => rfl, fun i s e => ?_⟩, fun a z => z.1, fun a z => z.elim, fun a z => z.elim, fun _ _ e _ _ => e, fun _ e => e, ht, fun _ z => z.elim⟩
  cases i with
  | succ i => cases e
  | zero =>
    cases e
    refine ⟨some (.ref a), rfl, .ref a, rfl, RT.pure (.lst (h.imp (fun z => ⟨z, id⟩) id) ?_), fun a m => nomatch m⟩
    clear h
    induction ns with
    | nil => exact .nil
    | cons n r ih => exact .cons (.int n) ih
/-- the law's promise, from what its mirror tells -/
theorem law_sp {K : PySem.W.Frag} {cm : Cm} {m : Rho → Option (T × Rho)} {H : Hp} {a : Addr} {ns : List Int} (h : SqL K H a (ns.map V.int)) (ht : LamX.Tabs cm.T H) (q : (m [.v (.p (.lst (ns.map D.int)))]).map (·.1) = some (.p (.bl true))) (E : XK) :
    spG K cm 1 m [.ref a] H (fun v _ => v = .bl true) E := by
  rw [Option.map_eq_some_iff] at q
  obtain ⟨⟨t, ss'⟩, q1, q2⟩ := q
  cases q2
  refine ⟨rfl, fun _ => False, fun _ => False, _, _, ss', only_args h ht, q1, fun v H' A' F σ' l R rt n hF => ?_⟩
  obtain ⟨_, r⟩ := rt
  cases r; rfl
end G

/-! Ly17: mirrors applied to slots; loops by what holds of them. -/
namespace G
open PySem PySem.Spec L2

/-- what a def answers -/
def ap (f : Rho → Option (T × Rho)) (ds : List D) : Option T := (f (slP ds)).map (·.1)
/-- a slot that may be filled: empty, or with a thing -/
def lo : Option T → Sl
  | none => .no
  | some t => .v t
def lp : Option D → Sl
  | none => .no
  | some d => .v (.p d)
@[simp] theorem lp_some (d : D) : lp (some d) = .v (.p d) := rfl
@[simp] theorem lo_some (d : T) : lo (some d) = .v d := rfl
def setAt (i : Nat) (t : T) (ρ : Rho) : Option Sl → Option Rho
  | some .no => some (ρ.set i (.v t))
  | some (.v _) => some (ρ.set i (.v t))
  | _ => none
@[simp] theorem setAt_no (i : Nat) (t : T) (ρ : Rho) : setAt i t ρ (some .no) = some (ρ.set i (.v t)) := (rfl)
@[simp] theorem setAt_v (i : Nat) (t u : T) (ρ : Rho) : setAt i t ρ (some (.v u)) = some (ρ.set i (.v t)) := (rfl)
@[simp] theorem setAt_lo (i : Nat) (t : T) (o : Option T) (ρ : Rho) : setAt i t ρ (some (lo o)) = some (ρ.set i (.v t)) := by cases o <;> rfl
@[simp] theorem setAt_lp (i : Nat) (t : T) (o : Option D) (ρ : Rho) : setAt i t ρ (some (lp o)) = some (ρ.set i (.v t)) := by cases o <;> rfl
@[simp] theorem setV_ap (i : Nat) (t : T) (ρ : Rho) : setV i t ρ = setAt i t ρ ρ[i]? := by
  unfold setV setAt
  split <;> simp_all
@[simp] theorem hName_ap (i : Nat) (d : D) (ρ : Rho) : hName i d ρ = setAt i (.p d) ρ ρ[i]? := setV_ap i _ ρ
def varAt (i : Nat) (ρ : Rho) : Option Sl → Option (RV × Rho)
  | some (.v (.p d)) => some (.val d, ρ)
  | some (.v _) => some (.ref i, ρ)
  | some (.pin _) => some (.ref i, ρ)
  | _ => none
@[simp] theorem varAt_p (i : Nat) (ρ : Rho) (d : D) : varAt i ρ (some (.v (.p d))) = some (.val d, ρ) := (rfl)
@[simp] theorem varAt_ls (i : Nat) (ρ : Rho) (d : List D) : varAt i ρ (some (.v (.ls d))) = some (.ref i, ρ) := (rfl)
@[simp] theorem varAt_di (i : Nat) (ρ : Rho) (d : List (DK × D)) : varAt i ρ (some (.v (.di d))) = some (.ref i, ρ) := (rfl)
@[simp] theorem varAt_dt (i : Nat) (ρ : Rho) (d : List (List DK × D)) : varAt i ρ (some (.v (.dt d))) = some (.ref i, ρ) := (rfl)
@[simp] theorem varAt_pin (i : Nat) (ρ : Rho) (t : T) : varAt i ρ (some (.pin t)) = some (.ref i, ρ) := (rfl)
@[simp] theorem eVar_ap (i : Nat) (ρ : Rho) : eVar i ρ = varAt i ρ ρ[i]? := by
  unfold eVar varAt
  split <;> simp_all
def keepAt (i : Nat) (ρ : Rho) : Option Sl → Option (RV × Rho)
  | some (.v (.p d)) => some (.val d, ρ)
  | some (.v t) => some (.val t.d, ρ.set i (.v (.p t.d)))
  | _ => none
@[simp] theorem keepAt_p (i : Nat) (ρ : Rho) (d : D) : keepAt i ρ (some (.v (.p d))) = some (.val d, ρ) := (rfl)
@[simp] theorem keepAt_ls (i : Nat) (ρ : Rho) (d : List D) : keepAt i ρ (some (.v (.ls d))) = some (.val (.lst d), ρ.set i (.v (.p (.lst d)))) := by simp [keepAt, T.d]
@[simp] theorem keepAt_di (i : Nat) (ρ : Rho) (d : List (DK × D)) : keepAt i ρ (some (.v (.di d))) = some (.val (.dic d), ρ.set i (.v (.p (.dic d)))) := by simp [keepAt, T.d]
@[simp] theorem eKeep_ap (i : Nat) (ρ : Rho) : eKeep i ρ = keepAt i ρ ρ[i]? := by
  unfold eKeep keepAt
  split <;> simp_all
def moveAt (i : Nat) (ρ : Rho) : Option Sl → Option (T × Rho)
  | some (.v (.p d)) => some (.p d, ρ)
  | some (.v t) => some (t, ρ.set i .no)
  | _ => none
@[simp] theorem moveAt_p (i : Nat) (ρ : Rho) (d : D) : moveAt i ρ (some (.v (.p d))) = some (.p d, ρ) := (rfl)
@[simp] theorem moveAt_ls (i : Nat) (ρ : Rho) (d : List D) : moveAt i ρ (some (.v (.ls d))) = some (.ls d, ρ.set i .no) := (rfl)
@[simp] theorem moveAt_di (i : Nat) (ρ : Rho) (d : List (DK × D)) : moveAt i ρ (some (.v (.di d))) = some (.di d, ρ.set i .no) := (rfl)
@[simp] theorem nMove_ap (i : Nat) (ρ : Rho) : nMove i ρ = moveAt i ρ ρ[i]? := by
  unfold nMove moveAt
  split <;> simp_all
@[simp] theorem Td_p (d : D) : T.d (.p d) = d := by simp [T.d]
@[simp] theorem Td_ls (d : List D) : T.d (.ls d) = .lst d := by simp [T.d]
@[simp] theorem Td_di (d : List (DK × D)) : T.d (.di d) = .dic d := by simp [T.d]
@[simp] theorem rd_val (ρ : Rho) (d : D) : rd ρ (.val d) = some d := (rfl)
@[simp] theorem pu_val (ρ : Rho) (d : D) : pu ρ (.val d) = some d := (rfl)
def rdAt : Option Sl → Option D
  | some (.v t) => t.q
  | some (.pin t) => t.q
  | _ => none
@[simp] theorem rd_ref (ρ : Rho) (i : Nat) : rd ρ (.ref i) = rdAt ρ[i]? := by
  show (ρ[i]?.bind Sl.t).bind T.q = _
  cases ρ[i]? with
  | none => rfl
  | some s => cases s <;> rfl
@[simp] theorem rdAt_ls (ds : List D) : rdAt (some (.v (.ls ds))) = some (.lst ds) := (rfl)
@[simp] theorem rdAt_di (ds : List (DK × D)) : rdAt (some (.v (.di ds))) = some (.dic ds) := (rfl)
@[simp] theorem rdAt_pls (ds : List D) : rdAt (some (.pin (.ls ds))) = some (.lst ds) := (rfl)
@[simp] theorem rdAt_pdi (ds : List (DK × D)) : rdAt (some (.pin (.di ds))) = some (.dic ds) := (rfl)
@[simp] theorem rdAt_pp (d : D) : rdAt (some (.pin (.p d))) = some d := (rfl)
@[simp] theorem pus_nil (ρ : Rho) : pus ρ [] = some [] := (rfl)
@[simp] theorem pus_cons (ρ : Rho) (r : RV) (rs : List RV) : pus ρ (r :: rs) = (pu ρ r).bind fun d => (pus ρ rs).map fun ds => d :: ds := (rfl)
@[simp] theorem rds_nil (ρ : Rho) : rds ρ [] = some [] := (rfl)
@[simp] theorem rds_cons (ρ : Rho) (r : RV) (rs : List RV) : rds ρ (r :: rs) = (rd ρ r).bind fun d => (rds ρ rs).map fun ds => d :: ds := (rfl)
@[simp] theorem setVs_nil (ρ : Rho) : setVs [] [] ρ = some ρ := (rfl)
@[simp] theorem setVs_cons (i : Nat) (is : List Nat) (t : T) (ts : List T) (ρ : Rho) : setVs (i :: is) (t :: ts) ρ = (setV i t ρ).bind fun ρ1 => setVs is ts ρ1 := (rfl)
def outOf (n : Nat) : Out → Option (T × Rho)
  | .rt t ρ => some (t, ρ.take n)
  | .nx ρ => some (.p .non, ρ.take n)
  | _ => none
@[simp] theorem outOf_rt (n : Nat) (t : T) (ρ : Rho) : outOf n (.rt t ρ) = some (t, ρ.take n) := (rfl)
@[simp] theorem outOf_nx (n : Nat) (ρ : Rho) : outOf n (.nx ρ) = some (.p .non, ρ.take n) := (rfl)
theorem runD_ap (m : Nat) (g : Sm) (ss : Rho) : runD m g ss = (g (ss ++ List.replicate m .no)).bind (outOf ss.length) := by
  unfold runD outOf
  congr 1
@[simp] theorem slP_nil : slP [] = [] := (rfl)
@[simp] theorem slP_cons (d : D) (ds : List D) : slP (d :: ds) = .v (.p d) :: slP ds := (rfl)
@[simp] theorem nCall_ap (n : Nat) (f : Rho → Option (T × Rho)) (g : Am) (ρ : Rho) : nCall n f g ρ = ((g ρ).bind fun p => (pus p.2 p.1).bind fun ds => if ds.length = n then (ap f ds).map fun t => (t, p.2) else none) := by
  simp only [nCall, ap, Option.map_map]; rfl
@[simp] theorem eIx_ap (f g : Em) (ρ : Rho) : eIx f g ρ = eOp cIx f g ρ := (rfl)
@[simp] theorem cAdd_int (i j : Int) : cAdd (.int i) (.int j) = some (.int (i + j)) := (rfl)
@[simp] theorem cSub_int (i j : Int) : cSub (.int i) (.int j) = some (.int (i - j)) := (rfl)
@[simp] theorem cMul_int (i j : Int) : cMul (.int i) (.int j) = if mulOk i j then some (.int (i * j)) else none := (rfl)
@[simp] theorem cDiv_int (i j : Int) : cDiv (.int i) (.int j) = if 0 < j ∧ j.natAbs.log2 < 9000 then some (.int (i / j)) else none := (rfl)
@[simp] theorem cMod_int (i j : Int) : cMod (.int i) (.int j) = if 0 < j then some (.int (i % j)) else none := (rfl)
@[simp] theorem cLt_int (i j : Int) : cLt (.int i) (.int j) = some (.bl (decide (i < j))) := (rfl)
@[simp] theorem cLe_int (i j : Int) : cLe (.int i) (.int j) = some (.bl (decide (i ≤ j))) := (rfl)
@[simp] theorem cGt_int (i j : Int) : cGt (.int i) (.int j) = some (.bl (decide (j < i))) := (rfl)
@[simp] theorem cGe_int (i j : Int) : cGe (.int i) (.int j) = some (.bl (decide (j ≤ i))) := (rfl)
@[simp] theorem cEq_int (i j : Int) : cEq (.int i) (.int j) = some (.bl (decide (i = j))) := by
  simp [cEq, D.ok, D.eq, D.flat, D.dep]
@[simp] theorem cNe_int (i j : Int) : cNe (.int i) (.int j) = some (.bl (!decide (i = j))) := by
  simp [cNe, D.ok, D.eq, D.flat, D.dep]
@[simp] theorem cLen_lst (ds : List D) : cLen [.lst ds] = some (.int ds.length) := (rfl)
@[simp] theorem cLen_tup (ds : List D) : cLen [.tup ds] = some (.int ds.length) := (rfl)
@[simp] theorem cIx_lst (ds : List D) (i : Int) : cIx (.lst ds) (.int i) = atI ds i := (rfl)
@[simp] theorem cIx_tup (ds : List D) (i : Int) : cIx (.tup ds) (.int i) = atI ds i := (rfl)
theorem atI_eq {α : Type} (xs : List α) (n : Nat) : atI xs (n : Int) = xs[n]? := by
  by_cases h : n < xs.length
  · rw [List.getElem?_eq_getElem h]; exact atI_nat (List.getElem?_eq_getElem h)
  · rw [List.getElem?_eq_none (by omega)]
    unfold atI ixN
    rw [if_pos (by omega), if_neg (by omega)]; rfl
@[simp] theorem atI_cast {α : Type} (xs : List α) (n : Nat) : atI xs (n : Int) = xs[n]? := atI_eq xs n
@[simp] theorem atI_succ {α : Type} (xs : List α) (n : Nat) : atI xs ((n : Int) + 1) = xs[n + 1]? := atI_eq xs (n + 1)
@[simp] theorem atI_zero {α : Type} (xs : List α) : atI xs 0 = xs[0]? := atI_eq xs 0
@[simp] theorem atI_one {α : Type} (xs : List α) : atI xs 1 = xs[1]? := atI_eq xs 1
@[simp] theorem atI_lit {α : Type} (xs : List α) (n : Nat) : atI xs (no_index (OfNat.ofNat n)) = xs[n]? := atI_eq xs n
@[simp] theorem cInt_int (i : Int) : cInt [.int i] = some (.int i) := (rfl)
@[simp] theorem cAbs_int (i : Int) : cAbs [.int i] = some (.int (if i < 0 then -i else i)) := (rfl)
@[simp] theorem isLs_v (ds : List D) (i : Nat) (ρ : Rho) (h : ρ[i]? = some (.v (.ls ds))) : isLs ρ i = some (.v (.ls ds), ds) := by unfold isLs; rw [h]
theorem isLs_ap (ρ : Rho) (i : Nat) : isLs ρ i = (match ρ[i]? with
  | some (.v (.ls ds)) => some (.v (.ls ds), ds)
  | some (.pin (.ls ds)) => some (.pin (.ls ds), ds)
  | _ => none) := (rfl)
theorem isDi_ap (ρ : Rho) (i : Nat) : isDi ρ i = (match ρ[i]? with
  | some (.v (.di ds)) => some (.v (.di ds), ds)
  | some (.pin (.di ds)) => some (.pin (.di ds), ds)
  | _ => none) := (rfl)
@[simp] theorem Sw_v (t u : T) : Sl.w (.v t) u = .v u := (rfl)
@[simp] theorem Sw_pin (t u : T) : Sl.w (.pin t) u = .pin u := (rfl)
/-! loops -/
theorem forF_rel {h : D → Rho → Option Rho} {b : Sm} (I : Nat → Rho → Prop) {ds : List D} {ρ : Rho} (h0 : I 0 ρ) (hs : ∀ i (hi : i < ds.length) ρ, I i ρ → ∃ ρ1 ρ2, h ds[i] ρ = some ρ1 ∧ (b ρ1 = some (.nx ρ2) ∨ b ρ1 = some (.ct ρ2)) ∧ I (i + 1) ρ2) :
    ∃ ρ', forF h b ds ρ = some (.nx ρ') ∧ I ds.length ρ' := by
  induction ds generalizing I ρ with
  | nil => exact ⟨ρ, rfl, h0⟩
  | cons d ds ih =>
    obtain ⟨ρ1, ρ2, e1, e2, i2⟩ := hs 0 (by simp) ρ h0
    obtain ⟨ρ', e3, i3⟩ := ih (fun i => I (i + 1)) i2 fun i hi ρ q => hs (i + 1) (by simpa using hi) ρ q
    refine ⟨ρ', ?_, i3⟩
    simp only [forF]
    rw [show h d ρ = some ρ1 from e1]
    rcases e2 with e2 | e2 <;> simp [e2, e3]
theorem rgD_length (lo : Int) (n : Nat) : (rgD lo n).length = n := by simp [rgD]
theorem rgD_get (lo : Int) (n i : Nat) (hi : i < (rgD lo n).length) : (rgD lo n)[i] = .int (lo + i) := by simp [rgD]
theorem forF_rg {h : D → Rho → Option Rho} {b : Sm} (I : Nat → Rho → Prop) {lo : Int} {n : Nat} {ρ : Rho} (h0 : I 0 ρ) (hs : ∀ i, i < n → ∀ ρ, I i ρ → ∃ ρ1 ρ2, h (.int (lo + i)) ρ = some ρ1 ∧ (b ρ1 = some (.nx ρ2) ∨ b ρ1 = some (.ct ρ2)) ∧ I (i + 1) ρ2) :
    ∃ ρ', forF h b (rgD lo n) ρ = some (.nx ρ') ∧ I n ρ' := by
  have := forF_rel (h := h) (b := b) I (ds := rgD lo n) h0 fun i hi ρ q => by
    rw [rgD_get]
    exact hs i (by rwa [rgD_length] at hi) ρ q
  rwa [rgD_length] at this
/-- a comprehension, every turn of which leaves the slots as they were -/
theorem lcF_map {own : List Nat} {h : D → Rho → Option Rho} {ifs : Bm} {elt : Em} {ρ : Rho} {f : D → D} : ∀ {ds : List D}, (∀ d ∈ ds, ∃ ρ1 ρ2 r ρ3, h d ρ = some ρ1 ∧ ifs ρ1 = some (true, ρ2) ∧ elt ρ2 = some (r, ρ3) ∧ pu ρ3 r = some (f d) ∧ wipeS own ρ3 = some ρ) → lcF own h ifs elt ds ρ = some (ds.map f, ρ)
  | [], _ => rfl
  | d :: ds, k => by
    obtain ⟨ρ1, ρ2, r, ρ3, e1, e2, e3, e4, e5⟩ := k d (by simp)
    have ih := lcF_map (ds := ds) fun d m => k d (by simp [m])
    simp [lcF, e1, e2, e3, e4, e5, ih]
@[simp] theorem hTup_ap (n : Nat) (hs : List D → Rho → Option Rho) (ds : List D) (ρ : Rho) : hTup n hs (.tup ds) ρ = if ds.length = n then hs ds ρ else none := (rfl)
@[simp] theorem hCons_ap (h : D → Rho → Option Rho) (hs : List D → Rho → Option Rho) (d : D) (r : List D) (ρ : Rho) : hCons h hs (d :: r) ρ = (h d ρ).bind fun ρ1 => hs r ρ1 := (rfl)
@[simp] theorem hNil_ap (ρ : Rho) : hNil [] ρ = some ρ := (rfl)
theorem hSub_ap (i : Nat) (g : Em) (d : D) (ρ : Rho) : hSub i g d ρ = ((isLs ρ i).bind fun _ => (g ρ).bind fun p => (rd p.2 p.1).bind fun k => (isLs p.2 i).bind fun _ => putAt i p.2 k d) := (rfl)
@[simp] theorem isT_non (T : String)  : isT T (.non) = ("NoneType" == T || (T == "int" && "NoneType" == "bool")) := rfl
@[simp] theorem isT_bl (T : String) (b : Bool) : isT T (.bl b) = ("bool" == T || (T == "int" && "bool" == "bool")) := rfl
@[simp] theorem isT_int (T : String) (b : Int) : isT T (.int b) = ("int" == T || (T == "int" && "int" == "bool")) := rfl
@[simp] theorem isT_str (T : String) (b : List Nat) : isT T (.str b) = ("str" == T || (T == "int" && "str" == "bool")) := rfl
@[simp] theorem isT_tup (T : String) (b : List D) : isT T (.tup b) = ("tuple" == T || (T == "int" && "tuple" == "bool")) := rfl
@[simp] theorem isT_lst (T : String) (b : List D) : isT T (.lst b) = ("list" == T || (T == "int" && "list" == "bool")) := rfl
@[simp] theorem isT_dic (T : String) (b : List (DK × D)) : isT T (.dic b) = ("dict" == T || (T == "int" && "dict" == "bool")) := rfl
@[simp] theorem cEq_bl (i j : Bool) : cEq (.bl i) (.bl j) = some (.bl (decide (i = j))) := by
  cases i <;> cases j <;> simp [cEq, D.ok, D.eq, D.flat, D.dep]
@[simp] theorem cNe_bl (i j : Bool) : cNe (.bl i) (.bl j) = some (.bl (!decide (i = j))) := by
  cases i <;> cases j <;> simp [cNe, D.ok, D.eq, D.flat, D.dep]
/-! dicts by key -/
theorem lookK_app {κ : Type} [DecidableEq κ] (xs ys : List (κ × D)) (k : κ) : lookK (xs ++ ys) k = (lookK xs k).or (lookK ys k) := by
  unfold lookK
  rw [List.find?_append]
  cases List.find? (fun kv => decide (kv.fst = k)) xs <;> rfl
theorem lookK_none {κ : Type} [DecidableEq κ] {xs : List (κ × D)} {k : κ} (h : ∀ p ∈ xs, p.1 ≠ k) : lookK xs k = none := by
  unfold lookK
  rw [List.find?_eq_none.mpr (fun p m => by simpa using h p m)]; rfl
theorem putD_new {κ : Type} [DecidableEq κ] {xs : List (κ × D)} {k : κ} {v : D} (h : ∀ p ∈ xs, p.1 ≠ k) : putD xs k v = xs ++ [(k, v)] := by
  unfold putD
  rw [if_neg]
  simp only [List.any_eq_true, decide_eq_true_eq, not_exists, not_and]
  exact fun p m => h p m
theorem lookK_new {κ : Type} [DecidableEq κ] {xs : List (κ × D)} {k : κ} {v : D} (h : ∀ p ∈ xs, p.1 ≠ k) : lookK (xs ++ [(k, v)]) k = some v := by
  rw [lookK_app, lookK_none h]
  simp [lookK]
theorem lookK_range {key : Nat → Int} {v : Nat → D} {n g : Nat} (hg : g < n) (inj : ∀ a b, key a = key b → a = b) : lookK ((List.range n).map fun g => (DK.i (key g), v g)) (.i (key g)) = some (v g) := by
  induction n with
  | zero => omega
  | succ n ih =>
    rw [List.range_succ, List.map_append, lookK_app]
    by_cases q : g = n
    · subst q
      rw [lookK_none fun p m => ?_]
      · simp [lookK]
      · simp only [List.mem_map, List.mem_range] at m
        obtain ⟨a, ha, rfl⟩ := m
        intro z
        injection z with z
        have := inj _ _ z
        omega
    · rw [ih (by omega)]; rfl
theorem lookK_range_none {key : Nat → Int} {v : Nat → D} {n : Nat} {r : Int} (h : ∀ g, g < n → key g ≠ r) : lookK ((List.range n).map fun g => (DK.i (key g), v g)) (.i r) = none := lookK_none fun p m => by
  simp only [List.mem_map, List.mem_range] at m
  obtain ⟨a, ha, rfl⟩ := m
  intro z
  injection z with z
  exact h a ha z
theorem putAt_ap (i : Nat) (ρ : Rho) (k d : D) : putAt i ρ k d = (match isLs ρ i with
  | some (s, ds) => (match k with
    | .int n => (ixN ds.length n).map fun j => ρ.set i (s.w (.ls (ds.set j d)))
    | _ => none)
  | none => (isDi ρ i).bind fun s => (k.k?).bind fun kk => if s.2.length < big then some (ρ.set i (s.1.w (.di (putD s.2 kk d)))) else none) := (rfl)
@[simp] theorem kk_int (n : Int) : D.k? (.int n) = some (.i n) := rfl
@[simp] theorem kk_str (n : List Nat) : D.k? (.str n) = some (.s n) := rfl
@[simp] theorem cGet2_int (kvs : List (DK × D)) (n : Int) (x : D) : cGet2 (.dic kvs) (.int n) x = some ((lookK kvs (.i n)).getD x) := rfl
@[simp] theorem cIx_dic (kvs : List (DK × D)) (n : Int) : cIx (.dic kvs) (.int n) = lookK kvs (.i n) := rfl
/-! the rest by rfl -/
@[simp] theorem eC_ap (d : D) (ρ : Rho) : eC d ρ = (some (.val d, ρ)) := (rfl)
@[simp] theorem bOf_ap (f : Em) (ρ : Rho) : bOf f ρ = ((f ρ).bind fun p => match p.1 with
  | .val (.bl b) => some (b, p.2)
  | _ => none) := (rfl)
@[simp] theorem eOp_ap (c : D → D → Option D) (f g : Em) (ρ : Rho) : eOp c f g ρ = ((f ρ).bind fun p => (g p.2).bind fun q => (rd q.2 p.1).bind fun x => (rd q.2 q.1).bind fun y => (c x y).map fun z => (.val z, q.2)) := (rfl)
@[simp] theorem nVal_ap (f : Em) (ρ : Rho) : nVal f ρ = ((f ρ).bind fun p => (pu p.2 p.1).map fun d => (.p d, p.2)) := (rfl)
@[simp] theorem eFrz_ap (f : Rho → Option (T × Rho)) (ρ : Rho) : eFrz f ρ = ((f ρ).map fun p => (.val p.1.d, p.2)) := (rfl)
@[simp] theorem bAnd_ap (f g : Bm) (ρ : Rho) : bAnd f g ρ = ((f ρ).bind fun p => if p.1 then g p.2 else some (false, p.2)) := (rfl)
@[simp] theorem bOr_ap (f g : Bm) (ρ : Rho) : bOr f g ρ = ((f ρ).bind fun p => if p.1 then some (true, p.2) else g p.2) := (rfl)
@[simp] theorem bNot_ap (f : Bm) (ρ : Rho) : bNot f ρ = ((f ρ).map fun p => (!p.1, p.2)) := (rfl)
@[simp] theorem eAnd_ap (f g : Em) (ρ : Rho) : eAnd f g ρ = ((f ρ).bind fun p => match p.1 with
  | .val (.bl true) => g p.2
  | .val (.bl false) => some (.val (.bl false), p.2)
  | _ => none) := (rfl)
@[simp] theorem eOr_ap (f g : Em) (ρ : Rho) : eOr f g ρ = ((f ρ).bind fun p => match p.1 with
  | .val (.bl false) => g p.2
  | .val (.bl true) => some (.val (.bl true), p.2)
  | _ => none) := (rfl)
@[simp] theorem eNot_ap (f : Em) (ρ : Rho) : eNot f ρ = ((f ρ).bind fun p => match p.1 with
  | .val (.bl b) => some (.val (.bl !b), p.2)
  | _ => none) := (rfl)
@[simp] theorem eIf_ap (f : Bm) (g h : Em) (ρ : Rho) : eIf f g h ρ = ((f ρ).bind fun p => if p.1 then g p.2 else h p.2) := (rfl)
@[simp] theorem nIf_ap (f : Bm) (g h : Rho → Option (T × Rho)) (ρ : Rho) : nIf f g h ρ = ((f ρ).bind fun p => if p.1 then g p.2 else h p.2) := (rfl)
@[simp] theorem eChain_ap (c1 c2 : D → D → Option D) (f g h : Em) (ρ : Rho) : eChain c1 c2 f g h ρ = ((f ρ).bind fun p => (g p.2).bind fun q => (rd q.2 p.1).bind fun x => (rd q.2 q.1).bind fun y => (c1 x y).bind fun z => match z with
  | .bl true => (h q.2).bind fun r => (rd r.2 q.1).bind fun y' => (rd r.2 r.1).bind fun w => (c2 y' w).map fun u => (.val u, r.2)
  | .bl false => some (.val (.bl false), q.2)
  | _ => none) := (rfl)
@[simp] theorem aNil_ap  (ρ : Rho) : aNil  ρ = (some ([], ρ)) := (rfl)
@[simp] theorem aCons_ap (f : Em) (g : Am) (ρ : Rho) : aCons f g ρ = ((f ρ).bind fun p => (g p.2).map fun q => (p.1 :: q.1, q.2)) := (rfl)
@[simp] theorem eTup_ap (g : Am) (ρ : Rho) : eTup g ρ = ((g ρ).bind fun p => (pus p.2 p.1).bind fun ds => if ds.length ≤ big then some (.val (.tup ds), p.2) else none) := (rfl)
@[simp] theorem nLst_ap (g : Am) (ρ : Rho) : nLst g ρ = ((g ρ).bind fun p => (pus p.2 p.1).bind fun ds => if ds.length ≤ big then some (.ls ds, p.2) else none) := (rfl)
@[simp] theorem nDic0_ap  (ρ : Rho) : nDic0  ρ = (some (.di [], ρ)) := (rfl)
@[simp] theorem nDit0_ap  (ρ : Rho) : nDit0  ρ = (some (.dt [], ρ)) := (rfl)
@[simp] theorem sNil_ap  (ρ : Rho) : sNil  ρ = (some (.nx ρ)) := (rfl)
@[simp] theorem sSeq_ap (g h : Sm) (ρ : Rho) : sSeq g h ρ = ((g ρ).bind fun o => match o with
  | .nx ρ1 => h ρ1
  | .rt t ρ1 => some (.rt t ρ1)
  | .bk ρ1 => some (.bk ρ1)
  | .ct ρ1 => some (.ct ρ1)) := (rfl)
@[simp] theorem sBreak_ap  (ρ : Rho) : sBreak  ρ = (some (.bk ρ)) := (rfl)
@[simp] theorem sCont_ap  (ρ : Rho) : sCont  ρ = (some (.ct ρ)) := (rfl)
@[simp] theorem sE_ap (f : Em) (ρ : Rho) : sE f ρ = ((f ρ).map fun p => .nx p.2) := (rfl)
@[simp] theorem sRet_ap (f : Rho → Option (T × Rho)) (ρ : Rho) : sRet f ρ = ((f ρ).map fun p => .rt p.1 p.2) := (rfl)
@[simp] theorem sRetN_ap  (ρ : Rho) : sRetN  ρ = (some (.rt (.p .non) ρ)) := (rfl)
@[simp] theorem sIf_ap (f : Bm) (g h : Sm) (ρ : Rho) : sIf f g h ρ = ((f ρ).bind fun p => if p.1 then g p.2 else h p.2) := (rfl)
@[simp] theorem sAsg_ap (i : Nat) (f : Rho → Option (T × Rho)) (ρ : Rho) : sAsg i f ρ = ((f ρ).bind fun p => (setV i p.1 p.2).map .nx) := (rfl)
@[simp] theorem sPar_ap (i j : Nat) (g : Am) (ρ : Rho) : sPar i j g ρ = ((g ρ).bind fun p => (pus p.2 p.1).bind fun ds => match ds with
  | [d, e] => (setV i (.p d) p.2).bind fun ρ1 => (setV j (.p e) ρ1).map .nx
  | _ => none) := (rfl)
@[simp] theorem sT_ap (f : Em) (h : D → Rho → Option Rho) (ρ : Rho) : sT f h ρ = ((f ρ).bind fun p => (pu p.2 p.1).bind fun d => (h d p.2).map .nx) := (rfl)
@[simp] theorem sFor_ap (f : Im) (h : D → Rho → Option Rho) (b : Sm) (ρ : Rho) : sFor f h b ρ = ((f ρ).bind fun p => forF h b p.1 p.2) := (rfl)
@[simp] theorem iRng1_ap (g : Am) (ρ : Rho) : iRng1 g ρ = ((g ρ).bind fun p => (pus p.2 p.1).bind fun ds => match ds with
  | [.int j] => if rgOk j then some (rgD 0 j.toNat, p.2) else none
  | _ => none) := (rfl)
@[simp] theorem iRng2_ap (g : Am) (ρ : Rho) : iRng2 g ρ = ((g ρ).bind fun p => (pus p.2 p.1).bind fun ds => match ds with
  | [.int i, .int j] => if rgOk i && rgOk j then some (rgD i (j - i).toNat, p.2) else none
  | _ => none) := (rfl)
@[simp] theorem iSeq_ap (f : Em) (ρ : Rho) : iSeq f ρ = ((f ρ).bind fun p => (pu p.2 p.1).bind fun d => (seqD d).map fun ds => (ds, p.2)) := (rfl)
@[simp] theorem nLc_ap (own : List Nat) (f : Im) (h : D → Rho → Option Rho) (ifs : Bm) (elt : Em) (ρ : Rho) : nLc own f h ifs elt ρ = ((f ρ).bind fun p => if p.1.length ≤ big then (wipeS own p.2).bind fun ρw => (lcF own h ifs elt p.1 ρw).map fun r => (.ls r.1, back p.2 r.2 own) else none) := (rfl)
@[simp] theorem bYes_ap  (ρ : Rho) : bYes  ρ = (some (true, ρ)) := (rfl)
@[simp] theorem oNone_ap  (ρ : Rho) : oNone  ρ = (some (none, ρ)) := (rfl)
@[simp] theorem oSome_ap (f : Em) (ρ : Rho) : oSome f ρ = ((f ρ).bind fun p => match rd p.2 p.1 with
  | some (.int i) => some (some i, p.2)
  | _ => none) := (rfl)
@[simp] theorem eSl_ap (f : Em) (l h : Om) (ρ : Rho) : eSl f l h ρ = ((f ρ).bind fun p => (l p.2).bind fun q => (h q.2).bind fun r => (rd r.2 p.1).bind fun d => (cSl d q.1 r.1).map fun z => (.val z, r.2)) := (rfl)
@[simp] theorem nSl_ap (f : Em) (l h : Om) (ρ : Rho) : nSl f l h ρ = ((f ρ).bind fun p => (l p.2).bind fun q => (h q.2).bind fun r => (rd r.2 p.1).bind fun d => match d with
  | .lst ds => some (.ls (cutD ds q.1 r.1), r.2)
  | _ => none) := (rfl)
@[simp] theorem eCb_ap (c : List D → Option D) (g : Am) (ρ : Rho) : eCb c g ρ = ((g ρ).bind fun p => (rds p.2 p.1).bind fun ds => (c ds).map fun z => (.val z, p.2)) := (rfl)
@[simp] theorem nCb_ap (c : List D → Option (List D)) (g : Am) (ρ : Rho) : nCb c g ρ = ((g ρ).bind fun p => (rds p.2 p.1).bind fun ds => (c ds).map fun z => (.ls z, p.2)) := (rfl)
@[simp] theorem eIsi_ap (T : String) (f : Em) (ρ : Rho) : eIsi T f ρ = ((f ρ).bind fun p => (rd p.2 p.1).bind fun d => match d with
  | .obj _ _ => none
  | .dit _ => none
  | d => some (.val (.bl (isT T d)), p.2)) := (rfl)
@[simp] theorem eMt_ap (i : Nat) (m : List D → List D → Option (D × List D)) (g : Am) (ρ : Rho) : eMt i m g ρ = ((isLs ρ i).bind fun _ => (g ρ).bind fun p => (pus p.2 p.1).bind fun es => (isLs p.2 i).bind fun s => (m s.2 es).map fun r => (.val r.1, p.2.set i (s.1.w (.ls r.2)))) := (rfl)
@[simp] theorem eMt0_ap (i : Nat) (m : List D → List D → Option (D × List D)) (ρ : Rho) : eMt0 i m ρ = ((isLs ρ i).bind fun s => (m s.2 []).map fun r => (.val r.1, ρ.set i (s.1.w (.ls r.2)))) := (rfl)
@[simp] theorem sPut_ap (i : Nat) (f g : Em) (ρ : Rho) : sPut i f g ρ = ((f ρ).bind fun p => (pu p.2 p.1).bind fun d => if (isLs p.2 i).isSome || (isDi p.2 i).isSome then (g p.2).bind fun q => (rd q.2 q.1).bind fun k => if (isLs p.2 i).isSome == (isLs q.2 i).isSome then (putAt i q.2 k d).map .nx else none else none) := (rfl)
@[simp] theorem nCallO_ap (n j : Nat) (f : Rho → Option (T × Rho)) (g : Am) (ρ : Rho) : nCallO n j f g ρ = ((g ρ).bind fun p => (argO p.2 j p.1).bind fun ss => (refAt j p.1).bind fun i => if ss.length = n then (f ss).bind fun r => (backO i j p.2 r.2).map fun ρ2 => (r.1, ρ2) else none) := (rfl)
@[simp] theorem iKey_ap (i : Nat) (ρ : Rho) : iKey i ρ = ((dicS i ρ).map fun p => (keysD p.1, p.2)) := (rfl)
@[simp] theorem eGet2_ap (f g h : Em) (ρ : Rho) : eGet2 f g h ρ = ((f ρ).bind fun p => (rd p.2 p.1).bind fun d0 => match d0 with
  | .dic _ => (g p.2).bind fun q => (h q.2).bind fun r => (rd r.2 p.1).bind fun d => (rd r.2 q.1).bind fun k => (pu r.2 r.1).bind fun x => (cGet2 d k x).map fun z => (.val z, r.2)
  | _ => none) := (rfl)
@[simp] theorem iEnu_ap (g : Am) (ρ : Rho) : iEnu g ρ = ((g ρ).bind fun p => (pus p.2 p.1).bind fun es => match es with
  | [.lst ds] => some (enumD ds, p.2)
  | _ => none) := (rfl)
@[simp] theorem mNil_ap  (ρ : Rho) : mNil  ρ = (some ([], ρ)) := (rfl)
@[simp] theorem mCons_ap (f : Rho → Option (T × Rho)) (g : Mm) (ρ : Rho) : mCons f g ρ = ((f ρ).bind fun p => (g p.2).map fun q => (p.1 :: q.1, q.2)) := (rfl)
@[simp] theorem sPars_ap (is : List Nat) (g : Mm) (ρ : Rho) : sPars is g ρ = ((g ρ).bind fun p => (setVs is p.1 p.2).map .nx) := (rfl)
@[simp] theorem nCallF_ap (f : Rho → Option (T × Rho)) (g : Rho → Option (T × Rho)) (ρ : Rho) : nCallF f g ρ = ((g ρ).bind fun p => (f [.pin p.1]).map fun r => (r.1, p.2)) := (rfl)
@[simp] theorem eUn_ap (c : D → Option D) (f : Em) (ρ : Rho) : eUn c f ρ = ((f ρ).bind fun p => (rd p.2 p.1).bind fun d => (c d).map fun z => (.val z, p.2)) := (rfl)
end G

set_option maxHeartbeats 4000000
/-! Ly18: sorted(set(text)). -/
namespace G
open PySem PySem.Spec PyProof.Rows L2

def kT (e : Int × Value) : Str := match e.2 with
  | .str k _ => k
  | _ => Str.empty
def GT (w : World) (e : Int × Value) : Prop := ∃ k u, e.2 = Value.str k u ∧ e.1 = hashStr w k
/-- the set of texts at a: M its members, n their number -/
def TR (w : World) (h : Heap) (a : Addr) (M : Str → Bool) (n : Nat) : Prop :=
  ∃ ob en ep tb, h.get? a = some ob ∧ ob.ExactSet ∧ ob.data = .set en ep tb ∧ (∀ e ∈ en.toList, GT w e) ∧ (en.toList.map kT).Nodup ∧ (∀ k, M k = true ↔ k ∈ en.toList.map kT) ∧
    en.size < scanBound ∧ tb.fits en.size = true ∧ en.size = n ∧ Ris tb.place.toList ∧ (w.params.followText "set-order" = true ∨ tb.led = true)
section
variable {P : Program} {w : World} {h h' : Heap} {a : Addr} {M : Str → Bool} {n : Nat}
theorem TR.keep (R : TR w h a M n) (k : ∀ o, h.get? a = some o → h'.get? a = some o) : TR w h' a M n :=
  let ⟨ob, en, ep, tb, e, r⟩ := R
  ⟨ob, en, ep, tb, k ob e, r⟩
theorem TR.same {M' : Str → Bool} (R : TR w h a M n) (e : ∀ k, M' k = M k) : TR w h a M' n := by
  rw [show M' = M from funext e]; exact R
theorem t_elems {l : List (Int × Value)} (g : ∀ e ∈ l, GT w e) : ElemsOf (strKind P w) l := fun e m => by
  obtain ⟨k, u, e1, e2⟩ := g e m
  exact ⟨⟨k, by rw [e1]; exact PySem.Froz.is_str k u, e2⟩, by rw [e1]; rfl⟩
theorem t_is {e : Int × Value} (g : GT w e) (k : Str) : (strKind P w).is k e.2 = true ↔ kT e = k := by
  obtain ⟨k0, u, e1, _⟩ := g
  unfold kT
  rw [e1]
  constructor
  · intro z
    obtain ⟨t, q⟩ := Value.isStrOf_shape (x := k) (v := .str k0 u) z
    injection q
  · intro z
    rw [show k0 = k from z]
    exact PySem.Froz.is_str k u
theorem t_mem {l : List (Int × Value)} (g : ∀ e ∈ l, GT w e) (k : Str) : k ∈ l.map kT ↔ ∃ e ∈ l, (strKind P w).is k e.2 = true := by
  rw [List.mem_map]
  exact ⟨fun ⟨e, m, q⟩ => ⟨e, m, (t_is (g e m) k).mpr q⟩, fun ⟨e, m, q⟩ => ⟨e, m, (t_is (g e m) k).mp q⟩⟩
end
section
variable {P : Program} {w : World} {A : Around} {E : Value → Shared → Prop} {s : Shared} {a : Addr} {M : Str → Bool} {n : Nat}
/-- the end of an add: the new entries are laid down, the table relaid if it is too full -/
theorem tr_tail {g : Bool → Sem Unit} (hg : ∀ (b : Bool) (s1 : Shared) (Q' : Unit → Shared → Prop), Q' () s1 → wpAny (model P w) A (g b) Q' E s1) {ob : Obj} {en : Array (Int × Value)} {ep : Nat} {tb : SetTable}
    (e0 : s.heap.get? a = some ob) (ex : ob.ExactSet) (dt : ob.data = .set en ep tb) {en1 : Array (Int × Value)} {tb2 : SetTable} {M' : Str → Bool} (g1 : ∀ e ∈ en1.toList, GT w e) (nd : (en1.toList.map kT).Nodup)
    (mm : ∀ k, M' k = true ↔ k ∈ en1.toList.map kT) (room : en1.size < scanBound) (ft : tb2.fits en1.size = true) (ri : Ris tb2.place.toList) (le : w.params.followText "set-order" = true ∨ tb2.led = true) {dummy : Bool} {R : Option Bool → Shared → Prop}
    (k : ∀ h', Heap.SameBut a s.heap h' → TR w h' a M' en1.size → R (some true) { s with heap := h' }) :
    wpAny (model P w) A (do
      storeSet a en1 tb2
      if (!dummy && tb2.tooFull) = true then do
        g (relayAll tb2 en1 (SetTable.grown en1.size)).2.2
        storeSet a (relayAll tb2 en1 (SetTable.grown en1.size)).1 (relayAll tb2 en1 (SetTable.grown en1.size)).2.1
        pure (some true)
      else pure (some true)) R E s := by
  have st1 := store_at (es' := en1) (t' := tb2) e0 dt
  have but1 := Heap.SameBut.update s.heap a (Obj.putSet en1 tb2)
  refine wpAny_bind (wpAny_storeSet_of e0 dt ?_ (fits_of_scanBound room))
  split
  · have perm := relayAll_perm tb2 en1 (SetTable.grown en1.size)
    have ft3 := relayAll_fits tb2 en1 (SetTable.grown en1.size)
    have ri3 := relayAll_ris tb2 en1 (SetTable.grown en1.size)
    have le3 := relayAll_led tb2 en1 (SetTable.grown en1.size)
    generalize relayAll tb2 en1 (SetTable.grown en1.size) = Z at perm ft3 ri3 le3 ⊢
    obtain ⟨en2, tb3, gave⟩ := Z
    dsimp only at perm ft3 ri3 le3 ⊢
    have sz : en2.size = en1.size := by rw [← Array.length_toList, perm.length_eq, Array.length_toList]
    have room2 : en2.size < scanBound := by omega
    refine wpAny_bind (hg _ _ _ (wpAny_bind (wpAny_storeSet_of st1 rfl ?_ (fits_of_scanBound room2))))
    have st2 := store_at (es' := en2) (t' := tb3) st1 rfl
    refine wpAny_pure (k _ (but1.trans (Heap.SameBut.update _ a _)) ⟨_, en2, _, tb3, st2, ex, rfl, fun e m => g1 e (perm.mem_iff.mp m), (perm.map kT).nodup_iff.mpr nd, fun x => (mm x).trans (perm.map kT).mem_iff.symm, room2, ft3, sz, ri3, ?_⟩)
    exact le.imp_right fun z => by rw [le3]; exact z
  · exact wpAny_pure (k _ but1 ⟨_, en1, _, tb2, st1, ex, rfl, g1, nd, mm, room, ft, rfl, ri, le⟩)
theorem tr_add {x : Str} {u : Tok} {Q : Bool → Shared → Prop} (R : TR w s.heap a M n) (room : n + 1 < scanBound)
    (hQ : ∀ h', Heap.SameBut a s.heap h' → TR w h' a (fun j => M j || decide (j = x)) (if M x = true then n else n + 1) → Q (!M x) { s with heap := h' }) :
    wpAny (model P w) A (setAddHashed a (.str x u) ((strKind P w).hash x)) Q E s := by
  obtain ⟨ob, en, ep, tb, e0, ex, dt, g, nd, mm, hb, ft, sz, ri, le⟩ := R
  have key : (strKind P w).is x (.str x u) = true := PySem.Froz.is_str x u
  have scan : (Value.str x u).scannable = true := rfl
  have elems : ElemsOf (strKind P w) en.toList := t_elems g
  unfold setAddHashed setAddHashedIn
  refine wpAny_holding (wpAny_bind (wpAny_setState_of e0 dt ft ?_))
  dsimp only
  rw [byScan_of scan hb elems]
  simp only [↓reduceIte]
  unfold setAddByScan
  refine wpAny_bind (wpAny_bind (wpAny_rule (wpAny_bind (wpAny_setScan_of key e0 dt ft elems ?_))))
  cases found : List.findIdx? (fun e => (strKind P w).is x e.2) en.toList with
  | some j =>
    dsimp only
    obtain ⟨hj, pj, _⟩ := List.findIdx?_eq_some_iff_getElem.mp found
    have inM : M x = true := (mm x).mpr ((t_mem (P := P) g x).mpr ⟨en.toList[j], List.getElem_mem hj, pj⟩)
    have q := hQ s.heap (Heap.SameBut.refl a s.heap) ⟨ob, en, ep, tb, e0, ex, dt, g, nd, fun i => by
      rw [Bool.or_eq_true, decide_eq_true_eq, ← mm i]
      exact ⟨fun z => z.elim id fun z => by rw [z]; exact inM, .inl⟩, hb, ft, by rw [if_pos inM]; exact sz, ri, le⟩
    rw [inM] at q
    exact wpAny_pure (wpAny_pure q)
  | none =>
    dsimp only
    have notin : x ∉ en.toList.map kT := fun z => by
      obtain ⟨e, m, q⟩ := (t_mem (P := P) g x).mp z
      have c := List.findIdx?_eq_none_iff.mp found e m
      rw [q] at c; cases c
    have inM : M x = false := by
      cases q : M x with
      | false => rfl
      | true => exact absurd ((mm x).mp q) notin
    have give : ∀ (b : Bool) {s1 : Shared} {Q' : Unit → Shared → Prop}, Q' () s1 → wpAny (model P w) A (match b with | true => rule "set.scan.the-table-gave-way" | false => pure ()) Q' E s1 := by
      intro b s1 Q' q
      cases b
      · exact wpAny_pure q
      · exact wpAny_rule q
    have perm := layNew_perm tb en ((strKind P w).hash x) (.str x u)
    have ft1 := layNew_fits tb en ((strKind P w).hash x) (.str x u)
    have ri1 := layNew_ris tb en ((strKind P w).hash x) (.str x u) ri
    have le1 := layNew_led tb en ((strKind P w).hash x) (.str x u)
    generalize layNew tb en ((strKind P w).hash x) (.str x u) = Z at perm ft1 ri1 le1 ⊢
    obtain ⟨en1, tb1, dummy, gave⟩ := Z
    dsimp only at perm ft1 ri1 le1 ⊢
    rw [Array.toList_push] at perm
    have perm2 : en1.toList.Perm (((strKind P w).hash x, Value.str x u) :: en.toList) := perm.trans (List.perm_append_singleton _ _)
    have permk : (en1.toList.map kT).Perm (x :: en.toList.map kT) := perm2.map kT
    have g1 : ∀ e ∈ en1.toList, GT w e := fun e m => by
      rcases List.mem_cons.mp (perm2.mem_iff.mp m) with z | z
      · rw [z]; exact ⟨x, u, rfl, rfl⟩
      · exact g e z
    have nd1 : (en1.toList.map kT).Nodup := permk.nodup_iff.mpr (List.nodup_cons.mpr ⟨notin, nd⟩)
    have mm1 : ∀ i, (M i || decide (i = x)) = true ↔ i ∈ en1.toList.map kT := fun i => by
      rw [Bool.or_eq_true, decide_eq_true_eq, mm i, permk.mem_iff, List.mem_cons]
      exact Or.comm
    have sz1 : en1.size = n + 1 := by rw [← Array.length_toList, perm2.length_eq, List.length_cons, Array.length_toList, sz]
    have room1 : en1.size < scanBound := by omega
    have led1 : w.params.followText "set-order" = true ∨ tb1.led = true := le.imp_right fun z => by rw [le1]; exact z
    have last : ∀ h', Heap.SameBut a s.heap h' → TR w h' a (fun j => M j || decide (j = x)) en1.size → Q true { s with heap := h' } := fun h' sb r => by
      have q := hQ h' sb
      rw [inM] at q
      rw [sz1] at r
      exact q r
    refine wpAny_bind (give _ ?_)
    split
    · refine wpAny_bind ?_
      rw [hashByValue_scannable 8 scan]
      refine wpAny_pure (tr_tail ?_ e0 ex dt g1 nd1 mm1 room1 ?_ ?_ ?_ ?_)
      · intro b s1 Q' q
        cases b
        · exact wpAny_pure q
        · exact wpAny_rule q
      · first | (split <;> first | exact ft1 | exact SetTable.fits_plain_off ft1) | exact ft1
      · first | (split <;> exact ri1) | exact ri1
      · first | (split <;> exact led1) | exact led1
      · intro h' sb r; dsimp only; exact wpAny_pure (last h' sb r)
    · refine wpAny_bind (wpAny_pure ?_)
      simp only [↓reduceIte]
      refine tr_tail ?_ e0 ex dt g1 nd1 mm1 room1 ft1 ri1 led1 ?_
      · intro b s1 Q' q
        cases b
        · exact wpAny_pure q
        · exact wpAny_rule q
      · intro h' sb r; dsimp only; exact wpAny_pure (last h' sb r)
end
end G

set_option maxHeartbeats 4000000
/-! Ly19: set(text) made, sorted. -/
namespace G
open PySem PySem.Spec PyProof.Rows L2
abbrev sg (c : Nat) : Str := PySem.Froz.sing c
/-- the members of the first i signs -/
def mT (cs : List Nat) : Str → Bool := fun k => decide (k ∈ cs.map sg)
section
variable {P : Program} {w : World} {A : Around} {R : Result → Shared → Prop} {I a : Addr} {fp wr : List Addr} {n : Nat} {x : Str} {St : Nat → Heap → Prop}
theorem t_loop (W : Walks P w A.in1 I fp wr n (SignAt x) St) (hn : n = x.cps.size) (haf : a ∉ fp) (room : n + 1 < scanBound) : ∀ (m i : Nat) (s : Shared), n - i = m → i ≤ n → St i s.heap → (∃ c, c ≤ i ∧ TR w s.heap a (mT (x.cps.toList.take i)) c) →
    (∀ h' tk c, (∀ b o, b ∉ a :: wr → s.heap.get? b = some o → h'.get? b = some o) → c ≤ n → TR w h' a (mT x.cps.toList) c → R (.ok (.ret .none)) { s with heap := h', toks := tk }) →
    codeAny (model P w) A (.builtin "set.update.loop" ⟨[.ref a, .ref I], []⟩) R s := by
  have haw : a ∉ wr := fun z => haf (W.sub _ z)
  intro m
  induction m with
  | zero =>
    intro i s hm hi hst ⟨c, hc, hS⟩ k
    have hin : i = n := by omega
    refine codeAny_builtin F.entry_set_update_loop ?_
    rw [Around.under_plainId F.plain_set_update_loop _]
    refine wpAny_bind (m := pyNext (.ref I)) (W.done s _ _ (by rw [← hin]; exact hst) fun h' tk hk => ?_)
    rw [List.take_of_length_le (by rw [hin, hn]; simp)] at hS
    show wpAny _ A.in1 (ret Value.none) _ _ _
    exact wpAny_pure (k h' tk c (fun b o hb e => hk b o (fun z => hb (List.mem_cons_of_mem _ z)) e) (by omega) (hS.keep fun o e => hk a o haw e))
  | succ m ih =>
    intro i s hm hi hst ⟨c, hc, hS⟩ k
    have hlt : i < n := by omega
    refine codeAny_builtin F.entry_set_update_loop ?_
    rw [Around.under_plainId F.plain_set_update_loop _]
    refine wpAny_bind (m := pyNext (.ref I)) (W.item i s _ _ hlt hst fun v h1 tk hP hst1 hk1 => ?_)
    obtain ⟨d, t, hd, rfl⟩ := hP
    have hS1 : TR w h1 a (mT (x.cps.toList.take i)) c := hS.keep fun o e => hk1 a o haw e
    show wpAny _ A.in1 (holding [Value.str ⟨#[d]⟩ t] (setAdd a (.str ⟨#[d]⟩ t)) >>= _) _ _ _
    refine wpAny_bind (wpAny_holding ?_)
    unfold setAdd
    refine wpAny_holding (wpAny_bind ((strKind P w).pyHash (k := sg d) (PySem.Froz.is_str _ _) ?_))
    refine tr_add (s := { s with heap := h1, toks := tk + 1 }) hS1 (by omega) fun h2 sb hS2 => ?_
    have hd' : x.cps.toList[i]? = some d := by rw [Array.getElem?_toList]; exact hd
    have hS3 : TR w h2 a (mT (x.cps.toList.take (i + 1))) (if mT (x.cps.toList.take i) (sg d) = true then c else c + 1) := hS2.same fun j => by
      unfold mT
      rw [List.take_add_one, hd']
      simp [List.mem_append]
      rfl
    have hc3 : (if mT (x.cps.toList.take i) (sg d) = true then c else c + 1) ≤ i + 1 := by split <;> omega
    refine wpAny_pure ⟨plainId_quiet F.plain_set_update_loop _, ih (i + 1) _ (by omega) hlt (W.frame _ h1 _ hst1 fun b hb o e => ?_) ⟨_, hc3, hS3⟩ fun h3 tk3 c3 hk3 hc4 hS4 => ?_⟩
    · rw [sb.2 b fun z => haf (by rw [← z]; exact hb)]; exact e
    · refine k h3 tk3 c3 (fun b o hb e => hk3 b o hb ?_) hc4 hS4
      show h2.get? b = some o
      rw [sb.2 b fun z => hb (by rw [z]; exact List.mem_cons_self)]
      exact hk1 b o (fun z => hb (List.mem_cons_of_mem _ z)) e
end
theorem tr_new {w : World} {h : Heap} {a : Addr} (e : h.get? a = some { cls := .type "set", dict := none, data := .set #[] 0 (.fresh 0 0 (!w.params.followText "set-order")) }) : TR w h a (mT []) 0 := by
  refine ⟨_, #[], 0, _, e, ⟨rfl, rfl, rfl⟩, rfl, fun e he => by simp at he, by simp, fun k => by simp [mT], by decide, by rfl, rfl, List.Pairwise.nil, ?_⟩
  show _ ∨ (!w.params.followText "set-order") = true
  cases w.params.followText "set-order"
  · exact .inr rfl
  · exact .inl rfl
section
variable {P : Program} {w : World} {A : Around} {E : Value → Shared → Prop} {s : Shared} {x : Str} {u : Tok}
theorem call_set_txt {Q : Value → Shared → Prop} (hh : A.handled = none) (hb : x.cps.size + 1 < scanBound)
    (h : ∀ (h' : Heap) (tk c : Nat), TR w h' s.heap.objs.size (mT x.cps.toList) c → c ≤ x.cps.size → (∀ b o, s.heap.get? b = some o → h'.get? b = some o) → Q (.ref s.heap.objs.size) { s with heap := h', toks := tk }) :
    wpAny (model P w) A (call (.type "set") [.str x u]) Q E s := by
  obtain ⟨c, tl, hmro⟩ := F.called_set.mro
  have hmade := F.called_set.made
  have hsub := F.called_set.sub
  refine wpAny_call (codeAny_of_tree ?_)
  show wpAny _ _ (callAny (.type "set") _) _ _ _
  refine wpAny_pure ⟨Code.quiet_builtin _ (by decide +kernel), codeAny_builtin F.entry_type_call ?_⟩
  rw [Around.under_plain (weight_type_call_type "set" [.str x u] []) rfl]
  have h1 := F.called_set.notType
  have h2 := F.called_set.canCreate
  have hct := F.typeCall_set_1 (.str x u)
  repeat (any_goals (first | assumption | wp_step))
  refine codeAny_mono (code_set_led1 (.str x u) (E := E) (Q₁ := fun o1 s1 => o1 = .ref s.heap.objs.size ∧ s1 = { s with heap := s.heap.push { cls := .type "set", dict := none, data := .set #[] 0 (.fresh 0 0 (!w.params.followText "set-order")) } }) ⟨rfl, rfl⟩) fun r s1 hr => ?_
  cases r with
  | error e => exact hr
  | ok fl =>
    cases fl with
    | ret o1 =>
      obtain ⟨rfl, rfl⟩ := hr
      have hS : (s.heap.push { cls := .type "set", dict := none, data := .set #[] 0 (.fresh 0 0 (!w.params.followText "set-order")) }).get? s.heap.objs.size = some { cls := .type "set", dict := none, data := .set #[] 0 (.fresh 0 0 (!w.params.followText "set-order")) } := Heap.get?_push_size _ rfl
      have hT : Shared.TypeIs { s with heap := s.heap.push { cls := .type "set", dict := none, data := .set #[] 0 (.fresh 0 0 (!w.params.followText "set-order")) } } (.ref s.heap.objs.size) "set" := ⟨_, hS, rfl⟩
      have hli := F.called_set.init.lookup
      have hbi := F.called_set.init.bind (.ref s.heap.objs.size)
      repeat (any_goals (first | assumption | wp_step))
      refine codeAny_mono (codeAny_call_builtin (R := wants (fun r s2 => r = .none ∧ ∃ h' tk c, s2 = { s with heap := h', toks := tk } ∧ TR w h' s.heap.objs.size (mT x.cps.toList) c ∧ c ≤ x.cps.size ∧
          (∀ b o, s.heap.get? b = some o → h'.get? b = some o)) E) F.called_set.init.plain F.entry_set_init (check_set_init_1 hT ?_)) fun r2 s2 hr2 => ?_
      · have hss := PySem.F.sub_str_set
        have hsf := PySem.F.sub_str_frozenset
        have hne : (Value.type "str" == Value.type "dict") = false := by decide
        unfold Builtin.«set.__init__» noKeywords Builtin.Frozenset.updateFrom
        generalize hPI : pyIter = PI
        wp_walk
        subst hPI
        refine wpAny_pyIter_str fun o St hW hst => ?_
        refine wpAny_bind (wpAny_runValue ?_)
        have hz1 : (s.heap.push { cls := .type "set", dict := none, data := .set #[] 0 (.fresh 0 0 (!w.params.followText "set-order")) }).objs.size = s.heap.objs.size + 1 := Heap.size_push ..
        refine t_loop (hW _ (by simp [hh])) rfl (by rw [hz1]; simp) hb (x.cps.size - 0) 0 _ (by omega) (Nat.zero_le _) hst ⟨0, Nat.le_refl 0, ?_⟩ fun h' tk c hk hc hS' => ?_
        · exact tr_new (Heap.get?_push_of_some _ hS)
        · refine wpAny_pure ?_
          show wpAny _ _ (ret Value.none) _ _ _
          refine wpAny_pure ⟨rfl, h', tk, c, rfl, hS', hc, fun b o e => hk b o (fun z => ?_) (Heap.get?_push_of_some _ (Heap.get?_push_of_some _ e))⟩
          have hb0 : b < s.heap.objs.size := Heap.lt_size e
          rw [hz1] at z
          rcases List.mem_cons.mp z with z | z
          · exact Nat.ne_of_lt hb0 z
          · exact Nat.ne_of_lt (Nat.lt_succ_of_lt hb0) (by simpa using z)
      · cases r2 with
        | error e => exact hr2
        | ok fl2 =>
          cases fl2 with
          | ret r =>
            obtain ⟨rfl, h', tk, c', rfl, hS', hc', hk'⟩ := hr2
            repeat (any_goals (first | assumption | wp_step))
            exact h _ _ _ hS' hc' hk'
          | _ => exact hr2.elim
    | _ => exact hr.elim
end
end G

set_option maxHeartbeats 4000000
/-! Ly20: sorted(set(text)) as a new list. -/
namespace G
open PySem PySem.Spec PyProof.Rows L2

/-! ### signs in order, each once -/
def insU (c : Nat) : List Nat → List Nat
  | [] => [c]
  | d :: r => if c < d then c :: d :: r else if c = d then d :: r else d :: insU c r
def ssort : List Nat → List Nat
  | [] => []
  | c :: r => insU c (ssort r)
theorem mem_insU (c x : Nat) : ∀ l : List Nat, x ∈ insU c l ↔ x = c ∨ x ∈ l
  | [] => by simp [insU]
  | d :: r => by
    unfold insU
    split
    · simp
    · split
      · rename_i e; subst e; simp
      · simp only [List.mem_cons, mem_insU c x r]
        exact ⟨fun h => by rcases h with h | h | h <;> simp [h], fun h => by rcases h with h | h | h <;> simp [h]⟩
theorem mem_ssort (x : Nat) : ∀ l : List Nat, x ∈ ssort l ↔ x ∈ l
  | [] => by simp [ssort]
  | c :: r => by rw [ssort, mem_insU, mem_ssort x r, List.mem_cons]
theorem insU_lt (c : Nat) : ∀ l : List Nat, l.Pairwise (· < ·) → (insU c l).Pairwise (· < ·)
  | [], _ => by simp [insU]
  | d :: r, h => by
    rw [List.pairwise_cons] at h
    unfold insU
    split
    · rename_i hc
      rw [List.pairwise_cons, List.pairwise_cons]
      refine ⟨fun x hx => ?_, h⟩
      rcases List.mem_cons.mp hx with z | z
      · rw [z]; exact hc
      · exact Nat.lt_trans hc (h.1 x z)
    · split
      · exact List.pairwise_cons.mpr h
      · rw [List.pairwise_cons]
        refine ⟨fun x hx => ?_, insU_lt c r h.2⟩
        rcases (mem_insU c x r).mp hx with z | z
        · omega
        · exact h.1 x z
theorem ssort_lt : ∀ l : List Nat, (ssort l).Pairwise (· < ·)
  | [] => List.Pairwise.nil
  | c :: r => insU_lt c _ (ssort_lt r)
theorem lt_uniq : ∀ {a b : List Nat}, a.Pairwise (· < ·) → b.Pairwise (· < ·) → (∀ x, x ∈ a ↔ x ∈ b) → a = b
  | [], [], _, _, _ => rfl
  | [], y :: b, _, _, h => absurd ((h y).mpr (by simp)) (by simp)
  | x :: a, [], _, _, h => absurd ((h x).mp (by simp)) (by simp)
  | x :: a, y :: b, ha, hb, h => by
    rw [List.pairwise_cons] at ha hb
    have e : x = y := by
      rcases List.mem_cons.mp ((h x).mp (by simp)) with q | q
      · exact q
      · rcases List.mem_cons.mp ((h y).mpr (by simp)) with q' | q'
        · exact q'.symm
        · have := ha.1 y q'; have := hb.1 x q; omega
    subst e
    rw [lt_uniq ha.2 hb.2 fun z => ?_]
    constructor
    · intro m
      rcases List.mem_cons.mp ((h z).mp (by simp [m])) with q | q
      · have := ha.1 z m; omega
      · exact q
    · intro m
      rcases List.mem_cons.mp ((h z).mpr (by simp [m])) with q | q
      · have := hb.1 z m; omega
      · exact q
theorem insU_len (c : Nat) : ∀ l : List Nat, (insU c l).length ≤ l.length + 1
  | [] => by simp [insU]
  | d :: r => by
    have := insU_len c r
    unfold insU
    split
    · simp
    · split <;> simp <;> omega
theorem ssort_len : ∀ l : List Nat, (ssort l).length ≤ l.length
  | [] => by simp [ssort]
  | c :: r => by
    have h1 := insU_len c (ssort r)
    have h2 := ssort_len r
    rw [ssort, List.length_cons]; omega
/-- what the sort gives, as signs -/
theorem rising_sg : ∀ (c : Nat) (ys : List Str), (∀ y ∈ ys, ∃ d, y = sg d) → risingS (sg c) ys = true → ∃ ds : List Nat, ys = ds.map sg ∧ (c :: ds).Pairwise (· ≤ ·)
  | c, [], _, _ => ⟨[], rfl, by simp⟩
  | c, y :: ys, h, r => by
    obtain ⟨d, rfl⟩ := h y (by simp)
    have r' : (!ltCps [d] [c] && risingS (sg d) ys) = true := r
    rw [Bool.and_eq_true] at r'
    obtain ⟨ds, e, hp⟩ := rising_sg d ys (fun z m => h z (by simp [m])) r'.2
    refine ⟨d :: ds, by rw [e]; rfl, ?_⟩
    have hle : c ≤ d := by
      have q := r'.1
      simp [ltCps] at q
      exact q
    rw [List.pairwise_cons] at hp ⊢
    refine ⟨fun x m => ?_, List.pairwise_cons.mpr hp⟩
    rcases List.mem_cons.mp m with z | z
    · rw [z]; exact hle
    · exact Nat.le_trans hle (hp.1 x z)
theorem sorted_sg (ys : List Str) (h : ∀ y ∈ ys, ∃ d, y = sg d) (r : sortedS ys = true) : ∃ ds : List Nat, ys = ds.map sg ∧ ds.Pairwise (· ≤ ·) := by
  cases ys with
  | nil => exact ⟨[], rfl, .nil⟩
  | cons y ys =>
    obtain ⟨d, rfl⟩ := h y (by simp)
    obtain ⟨ds, e, p⟩ := rising_sg d ys (fun z m => h z (by simp [m])) r
    exact ⟨d :: ds, by rw [e]; rfl, p⟩
theorem sg_inj {c d : Nat} (h : sg c = sg d) : c = d := by
  have q : [c] = [d] := congrArg (fun y : Str => y.cps.toList) h
  simpa using q
theorem sorted_is (cs : List Nat) (ks ys : List Str) (nd : ks.Nodup) (mm : ∀ k, k ∈ ks ↔ k ∈ cs.map sg) (pm : ys.Perm ks) (r : sortedS ys = true) : ys = (ssort cs).map sg := by
  have hy : ∀ y ∈ ys, ∃ d, y = sg d := fun y m => by
    obtain ⟨d, _, e⟩ := List.mem_map.mp ((mm y).mp (pm.mem_iff.mp m))
    exact ⟨d, e.symm⟩
  obtain ⟨ds, rfl, hp⟩ := sorted_sg ys hy r
  have nd2 : ds.Nodup := by
    have q : (ds.map sg).Nodup := pm.nodup_iff.mpr nd
    clear hp pm r hy
    induction ds with
    | nil => exact .nil
    | cons d ds ih =>
      rw [List.map_cons, List.nodup_cons] at q
      exact List.nodup_cons.mpr ⟨fun m => q.1 (List.mem_map.mpr ⟨d, m, rfl⟩), ih q.2⟩
  have lt : ds.Pairwise (· < ·) := by
    have q := List.Pairwise.and hp nd2
    exact q.imp fun ⟨h1, h2⟩ => Nat.lt_of_le_of_ne h1 h2
  rw [lt_uniq lt (ssort_lt cs) fun x => ?_]
  rw [mem_ssort]
  constructor
  · intro m
    obtain ⟨d, m2, e⟩ := List.mem_map.mp ((mm (sg x)).mp (pm.mem_iff.mp (List.mem_map.mpr ⟨x, m, rfl⟩)))
    rw [← sg_inj e]; exact m2
  · intro m
    obtain ⟨d, m2, e⟩ := List.mem_map.mp (pm.mem_iff.mpr ((mm (sg x)).mpr (List.mem_map.mpr ⟨x, m, rfl⟩)))
    rw [← sg_inj e]; exact m2

section
variable {P : Program} {w : World} {A : Around} {E : Value → Shared → Prop} {s : Shared} {a : Addr} {n : Nat} {cs : List Nat}
theorem sorted_tr {Q : Value → Shared → Prop} (R : TR w s.heap a (mT cs) n) (hh : A.handled = none) (h64 : n < 64)
    (hQ : ∀ s' p (out : List Value) (c : Nat), (∀ b o, s.heap.get? b = some o → s'.heap.get? b = some o) → s'.gens = s.gens → s'.os = s.os → s.heap.objs.size ≤ p → s'.heap.get? p = some (seqObj "list" out.toArray c) → StrsAre out ((ssort cs).map sg) → Q (.ref p) s') :
    wpAny (model P w) A (call (.builtin "sorted") [.ref a]) Q E s := by
  obtain ⟨ob, en, ep, tb, e0, ex, dt, g, nd, mm, hb, ft, sz, ri, le⟩ := R
  refine Calls.call_function_entry kind_sorted plain_sorted entry_sorted (args_sorted1 _) ?_
  unfold Builtin.«sorted»
  refine wpAny_bind (m := checkCount "sorted" 1 1 _) (wpAny_pure ?_)
  refine wpAny_bind (collect_set (A := A.in1) hh ⟨ob, e0, ex.1, dt⟩ ft hb ri le fun s1 vs k1 hz g1 o1 pm => ?_)
  have len : vs.length = n := by rw [pm.length_eq, List.length_map, Array.length_toList]; exact sz
  have allS : ∀ (vs : List Value), (∀ v ∈ vs, ∃ k u, v = Value.str k u) → ∃ ks, StrsAre vs ks ∧ ks = vs.map fun v => kT (0, v) := by
    intro vs
    induction vs with
    | nil => exact fun _ => ⟨[], .nil, rfl⟩
    | cons v vs ih =>
      intro h
      obtain ⟨k, u, rfl⟩ := h v (by simp)
      obtain ⟨ks, h1, h2⟩ := ih fun v m => h v (by simp [m])
      exact ⟨k :: ks, .cons k u h1, by rw [h2]; rfl⟩
  obtain ⟨ks, hS, hks⟩ := allS vs fun v m => by
    obtain ⟨e, me, q⟩ := List.mem_map.mp (pm.mem_iff.mp m)
    obtain ⟨k, u, h1, _⟩ := g e me
    exact ⟨k, u, by rw [← q]; exact h1⟩
  have pk : ks.Perm (en.toList.map kT) := by
    rw [hks]
    have q := pm.map fun v => kT (0, v)
    rw [List.map_map] at q
    exact q
  refine wpAny_bind (wpAny_newList ?_ (by rw [len, sizeLine_eq]; omega))
  have hoL : (s1.heap.push (seqObj "list" vs.toArray 0)).get? s1.heap.objs.size = some (seqObj "list" vs.toArray 0) := Heap.get?_push_size _ rfl
  refine wpAny_bind (wpAny_holding (wpAny_call_entry slot_list_sort ⟨_, hoL, rfl⟩ entry_list_sort (list_sort_treeK strKind_oneLt hoL hS.keysOf (fun v1 v2 rest e => keyKind_strs (by rw [← e]; exact hS)) (by rw [len]; exact h64) fun st' hp hs => ⟨_, rfl, ?_⟩) (args_list_sort _)))
  obtain ⟨ys, q1, q2, q3⟩ := sorted_out_str hS hp hs
  obtain ⟨c, hc⟩ := sortedHeap_at (vs := vs) (out := (arrOf st').map (·.2)) hoL
  have e := sorted_is cs (en.toList.map kT) ys nd (fun k => by rw [← mm k]; unfold mT; simp) (q2.trans pk) q3
  rw [e] at q1
  refine wpAny_pure ⟨_, rfl, hQ _ s1.heap.objs.size ((arrOf st').map (·.2)).toList c (fun b u e => ?_) g1 o1 hz (by rw [Array.toArray_toList]; exact hc) q1⟩
  have q := k1 b u e
  have hlt := Heap.lt_size q
  show (sortedHeap (s1.heap.push (seqObj "list" vs.toArray 0)) s1.heap.objs.size vs ((arrOf st').map (·.2))).get? b = some u
  rw [sortedHeap_old (Nat.ne_of_lt hlt) (by rw [size_push']; exact Nat.lt_succ_of_lt hlt)]
  exact Heap.get?_push_of_some _ q
end
/-- sorted(set(text)) -/
def tSset (te : TE) : TE := fun σ H Q => te σ H fun x H1 => ∃ z : Str, x = .str z ∧ z.cps.size < 63 ∧ ∀ p, H1 p = none → Q (.ref p) (upd H1 p (.lst (((ssort z.cps.toList).map sg).map V.str)))
section
variable {X : Cx} {cm : Cm}
theorem pe_sset {a : Expr} {te : TE} {p p2 q pos : Pos} (hc : X.calm = true) (hg : Gl X "sorted") (hm : X.mg "sorted" = none) (hg2 : Gl X "set") (hm2 : X.mg "set" = none) (ha : PE X a te)
    (na : starEach [a] X.env = (false, eval a X.env) :: starEach [] X.env := by rfl) : PE X (.Call (.Name "sorted" p) [.Call (.Name "set" p2) [a] [] q] [] pos) (tSset te) := by
  refine ⟨fun pins s σ H Q I h => ?_⟩
  refine Call_ (ld_blt I hg hm PyProof.Rows.boot_sorted (PyProof.Rows.callWith_builtin1 (PyProof.Rows.args_cons ?_ rfl) rfl rfl))
  refine Call_ (ld_blt I hg2 hm2 PyProof.Rows.boot_set (PyProof.Rows.callWith_type1 (PyProof.Rows.args_cons (thn (ha.run pins s σ H _ I h) fun v s1 ⟨x, H1, I1, r1, q1⟩ => PyProof.Rows.args_nil ?_) na) na rfl))
  obtain ⟨z, rfl, hz, q1⟩ := q1
  obtain ⟨t, rfl⟩ := r1
  have room : z.cps.size + 1 < scanBound := Nat.lt_of_le_of_lt (show z.cps.size + 1 ≤ 64 by omega) (by decide)
  refine call_set_txt (I1.ok.hd hc) room fun h' tk c hS hcz hk => PyProof.Rows.args_nil ?_
  have I2 : Inv X pins σ H1 { s1 with heap := h', toks := tk } := I1.kept hk
  refine sorted_tr (s := { s1 with heap := h', toks := tk }) hS (I1.ok.hd hc) (by omega) fun s' p out c2 hk2 hg2 ho2 hp2 he2 hS2 => ?_
  have hlen : (((ssort z.cps.toList).map sg).map V.str).length ≤ sizeLine := by
    rw [List.length_map, List.length_map]
    have l1 := ssort_len z.cps.toList
    have l2 : z.cps.toList.length = z.cps.size := Array.length_toList
    rw [sizeLine_eq]; omega
  have hn : H1 p = none := I2.hok.fresh hp2
  have J : Inv X pins σ (upd H1 p (.lst (((ssort z.cps.toList).map sg).map V.str))) { ({ s1 with heap := h', toks := tk } : Shared) with heap := s'.heap, gens := s'.gens, drawn := s'.drawn, toks := s'.toks } :=
    I2.call (ch := []) (Un.laid hk2 hp2 hn) (I2.hok.laid hk2 hp2 ⟨hlen, out, c2, vals_of_strs hS2, he2⟩) (by rw [hg2]; exact I2.bare) (fun _ m => nomatch m)
  have es : s' = { ({ s1 with heap := h', toks := tk } : Shared) with heap := s'.heap, gens := s'.gens, drawn := s'.drawn, toks := s'.toks } := by
    cases s'
    cases s1
    cases ho2
    rfl
  rw [es]
  exact ⟨.ref p, _, J, rfl, q1 p hn⟩
end
end G

/-! Ly21: sorted(set(text)), join, in. -/
namespace G
open PySem PySem.Spec L2

def nSset (f : Em) : Rho → Option (T × Rho) := fun ρ => (f ρ).bind fun p => (rd p.2 p.1).bind fun d => match d with
  | .str s => if s.length < 63 then some (.ls ((ssort s).map fun c => .str [c]), p.2) else none
  | _ => none
section
variable {X : Cx} {cm : Cm} {pos p p2 q : Pos} {a b e o : Expr} {K : PySem.W.Frag} {A : AS} {H : Hp}
theorem rpl_sg : ∀ cs : List Nat, RpL K cm A H ((cs.map sg).map V.str) (cs.map fun c => D.str [c])
  | [] => .nil
  | c :: cs => .cons (.str [c]) (rpl_sg cs)
theorem fn_sset {f : Em} (hc : X.calm = true) (hg : Gl X "sorted") (hm : X.mg "sorted" = none) (hg2 : Gl X "set") (hm2 : X.mg "set" = none) (ha : FE X cm a f) (na : starEach [a] X.env = (false, eval a X.env) :: starEach [] X.env := by rfl) :
    FN X cm (.Call (.Name "sorted" p) [.Call (.Name "set" p2) [a] [] q] [] pos) (nSset f) := (pe_sset hc hg hm hg2 hm2 ha na).imp fun σ H Q ⟨C, A, ρ, t, ρ', R, q, k⟩ => by
  unfold nSset at q
  simp only [Option.bind_eq_some_iff] at q
  obtain ⟨⟨r, ρ1⟩, h1, d, h2, h3⟩ := q
  dsimp only at h3
  split at h3
  · split at h3
    · rename_i s hz
      cases h3
      refine ⟨C, A, ρ, r, _, R, h1, fun v H1 A1 l1 R1 w1 => ?_⟩
      have ro := rd_ok R1 w1 h2
      cases ro.str
      refine ⟨S s, rfl, by rw [S_len']; exact hz, fun p hp => ?_⟩
      obtain ⟨l2, R2, hF⟩ := own1 (o := .lst (((ssort (S s).cps.toList).map sg).map V.str)) R1 hp
      refine k _ _ _ [p] (l1.trans l2) R2 ⟨p, _, rfl, rfl, upd_same, ?_⟩ (by simp) hF
      have e : (S s).cps.toList = s := by simp [S]
      rw [e]
      exact rpl_sg (ssort s)
    · cases h3
  · cases h3
where
  S_len' {s : List Nat} : (S s).cps.size = s.length := by simp [S]

/-! ### join -/
def D.s? : D → Option (List Nat)
  | .str s => some s
  | _ => none
def strL : List D → Option (List (List Nat))
  | [] => some []
  | d :: ds => d.s?.bind fun s => (strL ds).map fun r => s :: r
def jnL (a : List Nat) : List (List Nat) → List Nat
  | [] => []
  | [x] => x
  | x :: y :: r => x ++ a ++ jnL a (y :: r)
theorem strL_ok : ∀ {xs : List V} {ds : List D} {ss : List (List Nat)}, RpL K cm A H xs ds → strL ds = some ss → xs = (ss.map S).map V.str
  | _, _, _, .nil, e => by cases e; rfl
  | _, _, _, .cons h t, e => by
    simp only [strL, Option.bind_eq_some_iff, Option.map_eq_some_iff] at e
    obtain ⟨i, e1, r, e2, e3⟩ := e
    cases e3
    cases h <;> cases e1
    rw [strL_ok t e2]; rfl
theorem S_app (a b : List Nat) : S a ++ S b = S (a ++ b) := by
  show Str.mk _ = Str.mk _
  simp [S]
theorem join_S (a : List Nat) : ∀ ss : List (List Nat), Str.join (S a) (ss.map S) = S (jnL a ss)
  | [] => rfl
  | [x] => rfl
  | x :: y :: r => by
    show S x ++ S a ++ Str.join (S a) ((y :: r).map S) = S (x ++ a ++ jnL a (y :: r))
    rw [join_S a (y :: r), S_app, S_app]
def lstD : D → Option (List D)
  | .lst ds => some ds
  | .tup ds => some ds
  | _ => none
def cJoin (a : List Nat) (d : D) : Option D := (lstD d).bind fun ds => (strL ds).bind fun ss => if (ss.map (·.length)).sum + ss.length * a.length ≤ big then some (.str (jnL a ss)) else none
def eJoin (f g : Em) : Em := fun ρ => (f ρ).bind fun p => match p.1 with
  | .val (.str a) => (g p.2).bind fun q => (rd q.2 q.1).bind fun d => (cJoin a d).map fun z => (.val z, q.2)
  | _ => none
theorem fe_join {f g : Em} {apos : Pos} (ho : FE X cm o f) (he : FE X cm e g) (hs : starEach [e] X.env = [(false, eval e X.env)] := by rfl) (hbase : attributeBase o "join" X.env (eval o X.env) = eval o X.env := by rfl) (hline : (apos.endLine == pos.line) = true := by rfl) :
    FE X cm (.Call (.Attribute o "join" apos) [e] [] pos) (eJoin f g) := (pe_join ho he hs hbase hline).imp fun σ H Q ⟨C, A, ρ, t, ρ', R, q, k⟩ => by
  unfold eJoin at q
  simp only [Option.bind_eq_some_iff] at q
  obtain ⟨⟨r, ρ1⟩, h1, q⟩ := q
  dsimp only at q
  split at q
  rotate_left
  · cases q
  rename_i a
  simp only [Option.bind_eq_some_iff, Option.map_eq_some_iff] at q
  obtain ⟨⟨r2, ρ2⟩, h2, d, h3, z, h4, h5⟩ := q
  cases h5
  refine ⟨C, A, ρ, _, ρ1, R, h1, fun v H1 A1 l1 R1 w1 => ?_⟩
  cases w1
  refine ⟨⟨S a, rfl⟩, C, A1, ρ1, r2, ρ2, R1, h2, fun y H2 A2 l2 R2 w2 => ?_⟩
  have ro := rd_ok R2 w2 h3
  simp only [cJoin, Option.bind_eq_some_iff] at h4
  obtain ⟨ds, e1, ss, e2, e3⟩ := h4
  split at e3
  rotate_left
  · cases e3
  rename_i hz
  cases e3
  have main : ∃ p xs, y = .ref p ∧ (SqL X.K H2 p xs ∨ SqT X.K H2 p xs) ∧ RpL X.K cm A2 H2 xs ds := by
    cases d <;> cases e1
    · obtain ⟨p, xs, e, hs, r⟩ := ro.tup
      exact ⟨p, xs, e, .inr hs, r⟩
    · obtain ⟨p, xs, e, hs, r⟩ := ro.ls
      exact ⟨p, xs, e, .inl hs, r⟩
  obtain ⟨p, xs, rfl, hq, r⟩ := main
  have := strL_ok r e2
  subst this
  refine ⟨S a, p, ss.map S, rfl, rfl, hq, ?_, ?_⟩
  · have e : ((ss.map S).map fun x => x.length) = ss.map (·.length) := by
      rw [List.map_map]
      exact List.map_congr_left fun x _ => S_len x
    rw [e, List.length_map, S_len]
    have : big = 1000000 := rfl
    omega
  · rw [show Txt.join (S a) (ss.map S) = Str.join (S a) (ss.map S) from TL.join_eq _ _, join_S]
    exact k _ H2 A2 (l1.trans l2) R2 (.str _)

/-! ### in -/
def cIn2 : D → D → Option D
  | .str [c], .str s => some (.bl (decide (c ∈ s)))
  | _, _ => none
def cNin (x y : D) : Option D := (cIn2 x y).bind fun d => match d with
  | .bl b => some (.bl (!b))
  | _ => none
theorem sgS (c : Nat) : S [c] = ⟨#[c]⟩ := rfl
theorem ro_insign : RO K cm (fun x y H Q => ∃ (c : Nat) (z : Str), x = .str ⟨#[c]⟩ ∧ y = .str z ∧ Q (.bl (decide (c ∈ z.cps.toList))) H) cIn2 := by
  intro A H x y dx dy dz Q hd hx hy e k
  unfold cIn2 at e
  split at e
  · rename_i c s
    cases e
    cases hx.str; cases hy.str
    have h : (S s).cps.toList = s := by simp [S]
    refine ⟨c, S s, rfl, rfl, ?_⟩
    rw [h]
    exact k _ H (.refl H) (.bl _)
  · cases e
theorem ro_ninsign : RO K cm (fun x y H Q => ∃ (c : Nat) (z : Str), x = .str ⟨#[c]⟩ ∧ y = .str z ∧ Q (.bl (!decide (c ∈ z.cps.toList))) H) cNin := by
  intro A H x y dx dy dz Q hd hx hy e k
  unfold cNin cIn2 at e
  split at e
  · rename_i c s
    cases e
    cases hx.str; cases hy.str
    have h : (S s).cps.toList = s := by simp [S]
    refine ⟨c, S s, rfl, rfl, ?_⟩
    rw [h]
    exact k _ H (.refl H) (.bl _)
  · cases e
end
end G

/-! Ly22: in, not in, of texts, lists, tuples. -/
namespace G
open PySem PySem.Spec L2

def D.fl : D → Bool
  | .non => true
  | .bl _ => true
  | .int _ => true
  | .str _ => true
  | _ => false
def flL : List D → Bool
  | [] => true
  | d :: ds => d.fl && flL ds
def anyE (x : D) : List D → Bool
  | [] => false
  | d :: ds => D.eq d x || anyE x ds
def cInL (x y : D) : Option D := (lstD y).bind fun ds => if x.fl && flL ds then some (.bl (anyE x ds)) else none
def cInA (x y : D) : Option D := (cIn2 x y).or (cInL x y)
def cNi (x y : D) : Option D := (cInA x y).bind fun d => match d with
  | .bl b => some (.bl (!b))
  | _ => none
section
variable {X : Cx} {cm : Cm} {K : PySem.W.Frag} {A : AS} {H : Hp}
theorem fl_v {v : V} {d : D} (h : Rp K cm A H v d) (f : d.fl = true) : flatV v = true := by
  cases h <;> first | rfl | cases f
theorem fl_vL : ∀ {xs : List V} {ds : List D}, RpL K cm A H xs ds → flL ds = true → xs.all flatV = true
  | _, _, .nil, _ => rfl
  | _, _, .cons h t, f => by
    simp only [flL, Bool.and_eq_true] at f
    simp only [List.all_cons, Bool.and_eq_true]
    exact ⟨fl_v h f.1, fl_vL t f.2⟩
theorem S_inj2 {a b : List Nat} (h : S a = S b) : a = b := by
  have := congrArg (fun x : Str => x.cps.toList) h
  simpa [S] using this
theorem eq_v {v w : V} {d e : D} (h : Rp K cm A H v d) (g : Rp K cm A H w e) (f : d.fl = true) (f2 : e.fl = true) : eqV v w = D.eq d e := by
  cases h <;> (try cases f) <;> cases g <;> (try cases f2) <;> simp [eqV, D.eq]
  all_goals first
    | (rename_i a b; by_cases q : a = b
       · subst q; simp
       · rw [beq_eq_false_iff_ne.mpr (fun z => q (S_inj2 z))]; simp [q])
    | (rename_i a b; by_cases q : a = b <;> simp [q])
theorem any_v {v : V} {d : D} (h : Rp K cm A H v d) (f : d.fl = true) : ∀ {xs : List V} {ds : List D}, RpL K cm A H xs ds → flL ds = true → inV v xs = anyE d ds
  | _, _, .nil, _ => rfl
  | _, _, .cons g t, f2 => by
    simp only [flL, Bool.and_eq_true] at f2
    have ih := any_v h f t f2.2
    unfold inV at ih ⊢
    rw [List.any_cons, ih, eq_v g h f2.1 f]
    rfl
theorem ro_inseq {neg : Bool} : RO K cm (rIn K neg) (fun x y => (cInL x y).bind fun d => match d with
  | .bl b => some (.bl (if neg then !b else b))
  | _ => none) := by
  intro A H x y dx dy dz Q hd hx hy e k
  simp only [cInL, Option.bind_eq_some_iff] at e
  obtain ⟨d0, ⟨ds, h1, h2⟩, h3⟩ := e
  split at h2
  rotate_left
  · cases h2
  rename_i hz
  cases h2
  cases h3
  rw [Bool.and_eq_true] at hz
  have hx' : Rp K cm A H x dx := by
    cases hx with
    | of h => exact h
    | lst _ _ => exact absurd hz.1 (by simp [D.fl])
    | dic _ _ => exact absurd hz.1 (by simp [D.fl])
    | dit _ _ => exact absurd hz.1 (by simp [D.fl])
  have main : ∃ p xs, y = .ref p ∧ (SqL K H p xs ∨ SqT K H p xs) ∧ RpL K cm A H xs ds := by
    cases dy <;> cases h1
    · obtain ⟨p, xs, e, hs, r⟩ := hy.tup
      exact ⟨p, xs, e, .inr hs, r⟩
    · obtain ⟨p, xs, e, hs, r⟩ := hy.ls
      exact ⟨p, xs, e, .inl hs, r⟩
  obtain ⟨p, xs, rfl, hq, r⟩ := main
  refine ⟨p, xs, rfl, hq, fl_v hx' hz.1, fl_vL r hz.2, ?_⟩
  rw [any_v hx' hz.1 r hz.2]
  exact k _ H (.refl H) (.bl _)
theorem op_inA : OpR X (compareOp .In) (fun x y H Q => (∃ (c : Nat) (z : Str), x = .str ⟨#[c]⟩ ∧ y = .str z ∧ Q (.bl (decide (c ∈ z.cps.toList))) H) ∨ rIn X.K false x y H Q) := op_in_sign.or op_in_seq
theorem op_ninA : OpR X (compareOp .NotIn) (fun x y H Q => (∃ (c : Nat) (z : Str), x = .str ⟨#[c]⟩ ∧ y = .str z ∧ Q (.bl (!decide (c ∈ z.cps.toList))) H) ∨ rIn X.K true x y H Q) := op_notIn_sign.or op_notIn_seq
theorem ro_in : RO K cm (fun x y H Q => (∃ (c : Nat) (z : Str), x = .str ⟨#[c]⟩ ∧ y = .str z ∧ Q (.bl (decide (c ∈ z.cps.toList))) H) ∨ rIn K false x y H Q) cInA := (RO.or ro_insign ro_inseq).by fun x y z h => by
  unfold cInA at h
  cases q : cIn2 x y with
  | some d => rw [q] at h; exact h
  | none =>
    rw [q] at h
    have h : cInL x y = some z := h
    show (none : Option D).or _ = some z
    rw [h]
    simp only [cInL, Option.bind_eq_some_iff] at h
    obtain ⟨ds, _, h2⟩ := h
    split at h2 <;> cases h2
    rfl
theorem ro_nin : RO K cm (fun x y H Q => (∃ (c : Nat) (z : Str), x = .str ⟨#[c]⟩ ∧ y = .str z ∧ Q (.bl (!decide (c ∈ z.cps.toList))) H) ∨ rIn K true x y H Q) cNi := (RO.or ro_ninsign ro_inseq).by fun x y z h => by
  unfold cNi cInA at h
  unfold cNin
  cases q : cIn2 x y with
  | some d =>
    rw [q] at h
    obtain ⟨b, rfl⟩ : ∃ b, d = .bl b := by
      unfold cIn2 at q
      split at q <;> cases q
      exact ⟨_, rfl⟩
    exact h
  | none =>
    rw [q] at h
    exact h
end
end G

/-! Ly23: dict comprehensions. -/
namespace G
open PySem PySem.Spec L2

def dcF (own : List Nat) (h : D → Rho → Option Rho) (ifs : Bm) (ke ve : Em) : List D → List (DK × D) → Rho → Option (List (DK × D) × Rho)
  | [], acc, ρ => some (acc, ρ)
  | d :: ds, acc, ρ => (h d ρ).bind fun ρ1 => (ifs ρ1).bind fun p => if p.1 then (ke p.2).bind fun q => (ve q.2).bind fun r => (rd r.2 q.1).bind fun kd => (kd.k?).bind fun kk => (pu r.2 r.1).bind fun y => (wipeS own r.2).bind fun ρ3 => dcF own h ifs ke ve ds (putD acc kk y) ρ3
      else (wipeS own p.2).bind fun ρ3 => dcF own h ifs ke ve ds acc ρ3
def nDc (own : List Nat) (f : Im) (h : D → Rho → Option Rho) (ifs : Bm) (ke ve : Em) : Rho → Option (T × Rho) := fun ρ => (f ρ).bind fun p => if p.1.length ≤ big then (wipeS own p.2).bind fun ρw => (dcF own h ifs ke ve p.1 [] ρw).map fun r => (.di r.1, back p.2 r.2 own) else none
theorem putD_len {κ : Type} [DecidableEq κ] (kvs : List (κ × D)) (k : κ) (v : D) : (putD kvs k v).length ≤ kvs.length + 1 := by
  unfold putD
  split <;> simp
section
variable {X : Cx} {cm : Cm} {pos : Pos} {kx vx tg iter : Expr} {ifs : List Expr}
theorem tDc_core {K : PySem.W.Frag} {wi : TI} {own is : List Nat} {ds : List D} {all : List (DK × D)} {h : D → Rho → Option Rho} {g : Bm} {ke ve : Em} {σ : L2.St} {H : Hp} {Q : VK} {C : Fc} {A : AS} {ρ1 ρw ρ2 : Rho} (hsub : ∀ i ∈ is, i ∈ own)
    (hw : ∀ R' : It → Hp → Prop, (∀ J H1 A1 W, Lt C A H A1 H1 → RS K cm C A1 [] σ H1 ρ1 → ItOk K cm J W ds → W A1 H1 → R' J H1) → wi σ H R') (hbig : ds.length ≤ big) (h2 : wipeS own ρ1 = some ρw) (h3 : dcF own h g ke ve ds [] ρw = some (all, ρ2))
    (k : ∀ v H' A' F, Lt C A H A' H' → RS K cm C A' F σ H' (back ρ1 ρ2 own) → RT K cm A' H' v (.di all) F → F.Nodup → (∀ a ∈ F, C.H0 a = none ∧ A' a ∧ ¬ C.A0 a) → Q v H') : tDc wi (tG K cm is h) (tT K cm g) (tE K cm ke) (tE K cm ve) own σ H Q := by
  refine hw _ fun J H1 A1 W l1 R1 hJ w1 D hD => ?_
  obtain ⟨lD, RD, hF⟩ := own1 (o := .dK []) R1 hD
  have hA0 : ¬ C.A0 D := (hF D (by simp)).2.2
  have hH0 : C.H0 D = none := (hF D (by simp)).1
  have RW := (RD.plus (.inr rfl)).wipe h2
  refine ⟨fun i m Hc => m = ds.length - i ∧ i ≤ ds.length ∧ ∃ Ac ρc acc dacc, Lt C A1 H1 Ac Hc ∧ RS K cm (C.plus D) Ac [] (wipe σ own) Hc ρc ∧ W Ac Hc ∧ Hc D = some (.dK acc) ∧ RpK K cm Ac Hc acc dacc ∧ Ac D ∧ dacc.length ≤ i ∧ dcF own h g ke ve (ds.drop i) dacc ρc = some (all, ρ2),
    ⟨ds.length, by simp, Nat.zero_le _, _, ρw, [], [], lD, RW, hJ.stay _ _ _ _ w1 lD.l, upd_same, .nil, .inr rfl, Nat.zero_le _, h3⟩, ?_⟩
  rintro i m Hc ⟨rfl, hi, Ac, ρc, acc, dacc, lc, Rc, wc, hc, rc, hAc, hacc, qc⟩
  by_cases hlt : i < ds.length
  · rw [drop_cons_of hlt] at qc
    simp only [dcF, Option.bind_eq_some_iff] at qc
    obtain ⟨ρ3, q3, ⟨b, ρ4⟩, q4, q5⟩ := qc
    refine .inr ⟨hJ.go Ac Hc i wc hlt, fun H' => i + 1 ≤ ds.length ∧ ∃ Ac ρc acc dacc, Lt C A1 H1 Ac H' ∧ RS K cm (C.plus D) Ac [] (wipe σ own) H' ρc ∧ W Ac H' ∧ H' D = some (.dK acc) ∧ RpK K cm Ac H' acc dacc ∧ Ac D ∧ dacc.length ≤ i + 1 ∧ dcF own h g ke ve (ds.drop (i + 1)) dacc ρc = some (all, ρ2),
      fun H' h' => ⟨ds.length - (i + 1), by omega, rfl, h'⟩, fun x H3 hy => ?_⟩
    obtain ⟨g3, r3⟩ := hJ.yld Ac Hc i x H3 ds[i] wc Rc.dom (List.getElem?_eq_getElem hlt) hy
    have R3 := Rc.grow g3
    have l3 : Lt (C.plus D) Ac Hc Ac H3 := .same g3
    refine ⟨C.plus D, Ac, ρc, ds[i], ρ3, R3, r3, q3, fun σ2 H4 A4 l4 R4 el2 fe2 => ?_⟩
    have hw2 : wipe σ2 own = wipe σ own := by
      rw [← wipe_wipe σ own]
      exact wipe_same el2 fun j hj => fe2 j fun z => hj (hsub j z)
    refine ⟨hw2, C.plus D, A4, ρ3, b, ρ4, R4, q4, fun H5 A5 l5 R5 => ?_⟩
    cases b with
    | false =>
      simp only [Bool.false_eq_true, if_false, Option.bind_eq_some_iff] at q5
      obtain ⟨ρ5, q6, q7⟩ := q5
      have R6 := R5.wipe q6
      rw [hw2] at R6
      have l35 := (l3.trans l4).trans l5
      exact iteF ⟨hlt, A5, ρ5, acc, dacc, lc.trans l35.of_plus, R6, hJ.stay _ _ _ _ wc l35.l, l35.o D _ (.inr rfl) hc pl_dK.1, rc.later l35.l, R5.out D (.inr rfl), by omega, q7⟩
    | true =>
      simp only [if_true, Option.bind_eq_some_iff] at q5
      obtain ⟨⟨rk, ρ5⟩, q6, ⟨rv, ρ6⟩, q7, kd, q8, kk, q9, y, q10, ρ7, q11, q12⟩ := q5
      refine iteT ⟨C.plus D, A5, ρ4, rk, ρ5, R5, q6, fun vk H6 A6 l6 R6 w6 => ⟨C.plus D, A6, ρ5, rv, ρ6, R6, q7, fun vv H7 A7 l7 R7 w7 => ?_⟩⟩
      have l37 := (((l3.trans l4).trans l5).trans l6).trans l7
      have hD7 := l37.o D _ (.inr rfl) hc pl_dK.1
      have ry := pu_ok R7 w7 q10
      have hA7 := R7.out D (.inr rfl)
      have hk : vk = kV kk.k := by
        have ro := rd_ok R7 (w6.later l7) q8
        cases kd <;> cases q9
        · exact ro.int
        · exact ro.str
      obtain ⟨lu, Ru⟩ := R7.updOut (o := .dK (putK acc kk.k vv)) hA7 (.inr rfl) hH0 hD7 pl_dK
      have Ruw := Ru.wipe q11
      rw [hw2] at Ruw
      have lt : Lt C A1 H1 A7 (upd H7 D (.dK (putK acc kk.k vv))) := (lc.trans l37.of_plus).trans ⟨lu, fun a o z e _ => by rw [upd_ne (fun w => hA0 (by rw [← w]; exact z))]; exact e⟩
      refine ⟨acc, kk.k, hk, hD7, big_lt (by rw [rc.length]; omega), hlt, A7, ρ7, putK acc kk.k vv, putD dacc kk y, lt, Ruw, hJ.stay _ _ _ _ (hJ.stay _ _ _ _ wc l37.l) lu, upd_same, ((rc.later l37.l).later lu).put (ry.later lu), hA7, ?_, q12⟩
      have := putD_len dacc kk y
      omega
  · rw [List.drop_of_length_le (by omega)] at qc
    cases qc
    refine .inl ⟨hJ.stop Ac Hc i wc (by omega), ?_⟩
    refine k _ Hc Ac [D] (l1.trans lc) (RS.back R1 h2 lc (Rc.minus hH0)) ⟨D, acc, rfl, rfl, hc, rc⟩ (by simp) fun a m => ?_
    obtain rfl : a = D := by simpa using m
    exact ⟨hH0, hAc, hA0⟩
theorem fn_dc {own : List (Str × Nat)} {scope : Scope} {is : List Nat} {f : Im} {h : D → Rho → Option Rho} {g : Bm} {ke ve : Em} (hc : X.calm = true) (hN : X.N.Nodup) (hi : FI X cm tg iter f) (ok : BlkOk X.N X.env.scope scope own)
    (hg : ∀ (s : Shared) (H : Hp) (C : Addr) (cl : List (Str × Addr)) (fp : List Addr), FG (X.blk s H scope (compEnvC scope cl C X.env) fp) cm tg is h) (ht : ∀ (s : Shared) (H : Hp) (C : Addr) (cl : List (Str × Addr)) (fp : List Addr), FTs (X.blk s H scope (compEnvC scope cl C X.env) fp) cm ifs g)
    (hk : ∀ (s : Shared) (H : Hp) (C : Addr) (cl : List (Str × Addr)) (fp : List Addr), FE (X.blk s H scope (compEnvC scope cl C X.env) fp) cm kx ke) (he : ∀ (s : Shared) (H : Hp) (C : Addr) (cl : List (Str × Addr)) (fp : List Addr), FE (X.blk s H scope (compEnvC scope cl C X.env) fp) cm vx ve)
    (hsub : ∀ i ∈ is, i ∈ own.map (·.2)) (hs : ∀ x, foldedSetIterable iter X.env x = pure x := by intro _; rfl) : FN X cm (.DictComp kx vx [⟨tg, iter, ifs, 0⟩] scope pos) (nDc (own.map (·.2)) f h g ke ve) :=
  (pe_dc hc hN hi ok hg ht hk he hs).imp fun σ H Q hh => by
    obtain ⟨C, A, ρ, t, ρ', R, q, k⟩ := hh
    unfold nDc at q
    rw [Option.bind_eq_some_iff] at q
    obtain ⟨⟨ds, ρ1⟩, h1, q⟩ := q
    dsimp only at q
    split at q
    rotate_left
    · cases q
    rename_i hbig
    simp only [Option.bind_eq_some_iff, Option.map_eq_some_iff] at q
    obtain ⟨ρw, h2, ⟨all, ρ2⟩, h3, h4⟩ := q
    cases h4
    exact tDc_core hsub (fun R' hR => ⟨C, A, ρ, ds, ρ1, R, h1, hR⟩) hbig h2 h3 k
end
end G

/-! Ly24: count, index, rindex of one sign. -/
namespace G
open PySem PySem.Spec L2 PySem.StrLaws PySem.Builtin.Str

/-- the places of a sign, from k on -/
def posn (c : Nat) : List Nat → Nat → List Nat
  | [], _ => []
  | d :: r, k => if d = c then k :: posn c r (k + 1) else posn c r (k + 1)
theorem posn_len (c : Nat) : ∀ (s : List Nat) (k : Nat), (posn c s k).length = s.count c
  | [], _ => rfl
  | d :: r, k => by
    unfold posn
    by_cases h : d = c
    · rw [if_pos h, List.length_cons, posn_len c r (k + 1), h, List.count_cons_self]
    · rw [if_neg h, posn_len c r (k + 1), List.count_cons_of_ne h]
theorem posn_filter (c : Nat) (s : List Nat) : ∀ (t : List Nat) (k : Nat), s.drop k = t → ((List.range' k (t.length + 1)).filter fun i => decide (s[i]? = some c)) = posn c t k
  | [], k, h => by
    have : s[k]? = none := List.getElem?_eq_none (List.drop_eq_nil_iff.mp h)
    simp [posn, List.range'_succ, this]
  | d :: t, k, h => by
    have e : s[k]? = some d := by
      have := congrArg (fun l : List Nat => l[0]?) h
      simpa [List.getElem?_drop] using this
    have h2 : s.drop (k + 1) = t := by
      rw [← List.tail_drop, h]; rfl
    rw [List.length_cons, List.range'_succ, List.filter_cons, posn_filter c s t (k + 1) h2, e, show posn c (d :: t) k = if d = c then k :: posn c t (k + 1) else posn c t (k + 1) from rfl]
    by_cases q : d = c <;> simp [q]
theorem occ_run (x : Str) (c limit : Nat) : ∀ (l : List Nat) (f : Array Nat) (free : Nat), l.Pairwise (· < ·) → (∀ i ∈ l, free ≤ i) →
    (forIn l (f, free) (occBody x ⟨#[c]⟩ x.length limit)).run.fst.toList = f.toList ++ (l.filter fun i => decide (x.cps.toList[i]? = some c)).take (limit - f.size)
  | [], f, free, _, _ => by simp
  | a :: l, f, free, hp, hf => by
    rw [List.pairwise_cons] at hp
    rw [List.forIn_cons]
    have ha : free ≤ a := hf a (List.mem_cons_self ..)
    have key := subAt_one x c a
    unfold occBody
    by_cases hc : x.cps.toList[a]? = some c
    · obtain ⟨k1, k2⟩ := key.mpr hc
      by_cases hs : f.size < limit
      · rw [if_pos ⟨⟨⟨hs, ha⟩, k1⟩, k2⟩]
        have ih := occ_run x c limit l (f.push a) (a + 1) hp.2 fun i m => hp.1 i m
        refine ih.trans ?_
        rw [List.filter_cons, if_pos (by simpa using hc), Array.toList_push, Array.size_push, show limit - f.size = (limit - (f.size + 1)) + 1 by omega, List.take_succ_cons]
        simp
      · rw [if_neg (fun z => hs z.1.1.1)]
        have ih := occ_run x c limit l f free hp.2 fun i m => hf i (List.mem_cons_of_mem _ m)
        refine ih.trans ?_
        rw [show limit - f.size = 0 by omega]; simp
    · rw [if_neg (fun z => hc (key.mp ⟨z.1.2, z.2⟩))]
      have ih := occ_run x c limit l f free hp.2 fun i m => hf i (List.mem_cons_of_mem _ m)
      refine ih.trans ?_
      rw [List.filter_cons, if_neg (by simpa using hc)]
theorem S_list (s : List Nat) : (S s).cps.toList = s := by simp [S]
theorem occ_pos (s : List Nat) (c limit : Nat) : occurrences (S s) ⟨#[c]⟩ 0 (S s).length limit = (posn c s 0).take limit := by
  rw [occ_eq, occ_run (S s) c limit _ #[] 0 List.pairwise_lt_range' (fun _ _ => Nat.zero_le _), S_list, S_len]
  have := posn_filter c s s 0 rfl
  rw [Nat.sub_zero, this]
  simp
theorem posn_ge (c : Nat) : ∀ (s : List Nat) (k i : Nat), i ∈ posn c s k ↔ k ≤ i ∧ s[i - k]? = some c
  | [], k, i => by simp [posn]
  | d :: r, k, i => by
    unfold posn
    have ih := posn_ge c r (k + 1) i
    by_cases h : d = c
    · rw [if_pos h, List.mem_cons, ih]
      constructor
      · rintro (rfl | ⟨h1, h2⟩)
        · simp [h]
        · refine ⟨by omega, ?_⟩
          rw [show i - k = (i - (k + 1)) + 1 by omega]; simpa using h2
      · rintro ⟨h1, h2⟩
        by_cases q : i = k
        · exact .inl q
        · refine .inr ⟨by omega, ?_⟩
          rw [show i - k = (i - (k + 1)) + 1 by omega] at h2; simpa using h2
    · rw [if_neg h, ih]
      constructor
      · rintro ⟨h1, h2⟩
        refine ⟨by omega, ?_⟩
        rw [show i - k = (i - (k + 1)) + 1 by omega]; simpa using h2
      · rintro ⟨h1, h2⟩
        by_cases q : i = k
        · subst q; simp at h2; exact absurd h2 h
        · refine ⟨by omega, ?_⟩
          rw [show i - k = (i - (k + 1)) + 1 by omega] at h2; simpa using h2
theorem posn_lt (c : Nat) : ∀ (s : List Nat) (k : Nat), (posn c s k).Pairwise (· < ·)
  | [], _ => .nil
  | d :: r, k => by
    unfold posn
    split
    · refine List.pairwise_cons.mpr ⟨fun i m => ?_, posn_lt c r (k + 1)⟩
      have := ((posn_ge c r (k + 1) i).mp m).1
      omega
    · exact posn_lt c r (k + 1)
theorem last_pos (s : List Nat) (c k : Nat) (h : (posn c s 0).getLast? = some k) : lastOccurrence (S s) ⟨#[c]⟩ 0 (S s).length = some k := by
  have at_iff : ∀ i, At (S s) ⟨#[c]⟩ (S s).length i ↔ s[i]? = some c := fun i => by
    have := subAt_one (S s) c i
    rw [S_list] at this
    exact this
  have mem : ∀ i, i ∈ posn c s 0 ↔ s[i]? = some c := fun i => by
    rw [posn_ge]; simp
  rcases last_spec (S s) ⟨#[c]⟩ with ⟨_, h2⟩ | ⟨i, h1, h2, h3⟩
  · exact absurd ((at_iff k).mpr ((mem k).mp (List.mem_of_getLast? h))) (h2 k)
  · rw [h1]
    congr 1
    have m := (mem i).mpr ((at_iff i).mp h2)
    have mk := List.mem_of_getLast? h
    have hk := (at_iff k).mpr ((mem k).mp mk)
    have a1 : ¬ i < k := fun z => h3 k z hk
    have a2 : i ≤ k := by
      obtain ⟨ys, e⟩ := List.getLast?_eq_some_iff.mp h
      have pw := posn_lt c s 0
      rw [e] at m pw
      rcases List.mem_append.mp m with z | z
      · have := (List.pairwise_append.mp pw).2.2 i z k (by simp)
        omega
      · have : i = k := by simpa using z
        omega
    omega
/-- a text's method with one argument, by data -/
def RTm (K : PySem.W.Frag) (cm : Cm) (r : V → List V → Hp → VK → Prop) (m : List Nat → D → Option D) : Prop := ∀ (A : AS) (H : Hp) (s : List Nat) (y : V) (d z : D) (Q : VK), Ro K cm A H y d → m s d = some z → (∀ v, Rp K cm A H v z → Q v H) → r (.str (S s)) [y] H Q
def eTm (m : List Nat → D → Option D) (f g : Em) : Em := fun ρ => (f ρ).bind fun p => match p.1 with
  | .val (.str a) => (g p.2).bind fun q => (rd q.2 q.1).bind fun d => (m a d).map fun z => (.val z, q.2)
  | _ => none
def cCount (s : List Nat) : D → Option D
  | .str [c] => some (.int (s.count c : Nat))
  | _ => none
def cIndex (s : List Nat) : D → Option D
  | .str [c] => (posn c s 0).head?.map fun k => .int (k : Nat)
  | _ => none
def cRindex (s : List Nat) : D → Option D
  | .str [c] => (posn c s 0).getLast?.map fun k => .int (k : Nat)
  | _ => none
section
variable {X : Cx} {cm : Cm} {pos : Pos} {e o : Expr} {K : PySem.W.Frag}
theorem fe_tm {f g : Em} {m : List Nat → D → Option D} {id : String} {name : Str} {apos : Pos} {r : V → List V → Hp → VK → Prop} (slot : Slot "str" name id) (ty : typeOf (.builtin id) = pure (.type "method_descriptor")) (rule : MtR X id r) (hr : RTm X.K cm r m) (ho : FE X cm o f) (he : FE X cm e g)
    (hs : starEach [e] X.env = [(false, eval e X.env)] := by rfl) (hbase : attributeBase o name X.env (eval o X.env) = eval o X.env := by rfl) (hline : (apos.endLine == pos.line) = true := by rfl) :
    FE X cm (.Call (.Attribute o name apos) [e] [] pos) (eTm m f g) := (pe_m1 slot ty rule ho he hs hbase hline).imp fun σ H Q ⟨C, A, ρ, t, ρ', R, q, k⟩ => by
  unfold eTm at q
  simp only [Option.bind_eq_some_iff] at q
  obtain ⟨⟨r, ρ1⟩, h1, q⟩ := q
  dsimp only at q
  split at q
  rotate_left
  · cases q
  rename_i a
  simp only [Option.bind_eq_some_iff, Option.map_eq_some_iff] at q
  obtain ⟨⟨r2, ρ2⟩, h2, d, h3, z, h4, h5⟩ := q
  cases h5
  refine ⟨C, A, ρ, _, ρ1, R, h1, fun v H1 A1 l1 R1 w1 => ?_⟩
  cases w1
  refine ⟨⟨S a, rfl⟩, C, A1, ρ1, r2, ρ2, R1, h2, fun y H2 A2 l2 R2 w2 => ?_⟩
  exact hr A2 H2 a y d z Q (rd_ok R2 w2 h3) h4 fun v rv => k v H2 A2 (l1.trans l2) R2 rv
theorem rt_count : RTm K cm (fun x xs H Q => ∃ a b, x = .str a ∧ xs = [.str b] ∧ Q (.int (Txt.count a b)) H) cCount := by
  intro A H s y d z Q ro e k
  unfold cCount at e
  split at e
  · rename_i c
    cases e
    cases ro.str
    refine ⟨S s, S [c], rfl, rfl, ?_⟩
    have h : Txt.count (S s) (S [c]) = (s.count c : Nat) := by
      show ((occurrences (S s) ⟨#[c]⟩ 0 (S s).length ((S s).length + 1)).length : Int) = _
      rw [occ_pos, List.take_of_length_le (by rw [posn_len, S_len]; exact Nat.le_succ_of_le List.count_le_length), posn_len]
    rw [h]
    exact k _ (.int _)
  · cases e
theorem rt_index : RTm K cm (fun x xs H Q => ∃ a b i rest, x = .str a ∧ xs = [.str b] ∧ Builtin.Str.occurrences a b 0 a.length 1 = i :: rest ∧ Q (.int (i : Nat)) H) cIndex := by
  intro A H s y d z Q ro e k
  unfold cIndex at e
  split at e
  · rename_i c
    rw [Option.map_eq_some_iff] at e
    obtain ⟨i, e1, rfl⟩ := e
    cases ro.str
    refine ⟨S s, S [c], i, [], rfl, rfl, ?_, k _ (.int _)⟩
    show occurrences (S s) ⟨#[c]⟩ 0 (S s).length 1 = [i]
    rw [occ_pos]
    cases q : posn c s 0 with
    | nil => rw [q] at e1; cases e1
    | cons a r => rw [q] at e1; cases e1; rfl
  · cases e
def rRix : V → List V → Hp → VK → Prop := fun x xs H Q => ∃ (a b : Str) (k : Nat), x = .str a ∧ xs = [.str b] ∧ lastOccurrence a b 0 a.length = some k ∧ Q (.int (k : Nat)) H
theorem mt_rix : MtR X "str.rindex" rRix := by
  intro pins s σ H x xs v us Q I rx rs h
  obtain ⟨a, b, k, rfl, rfl, q, w⟩ := h
  obtain ⟨t, rfl⟩ := rx
  cases rs with
  | cons r1 rs =>
    cases rs
    obtain ⟨u, rfl⟩ := r1
    exact call_gives PySem.F.slot_str_rindex (typeIs_str _ _ _) PySem.F.entry_str_rindex (PySem.F.args_str_rindex_2 _ _) (gives_str_rindex a b t u k q) ⟨.int (k : Nat), H, I.tok _, ⟨_, rfl⟩, w⟩
theorem rt_rindex : RTm K cm rRix cRindex := by
  intro A H s y d z Q ro e k
  unfold cRindex at e
  split at e
  · rename_i c
    rw [Option.map_eq_some_iff] at e
    obtain ⟨i, e1, rfl⟩ := e
    cases ro.str
    exact ⟨S s, S [c], i, rfl, rfl, last_pos s c i e1, k _ (.int _)⟩
  · cases e
end
end G

/-! Ly25: list(..), tuple(..), extend, insert; a call with a fresh first argument. -/
namespace G
open PySem PySem.Spec L2

/-! ### list, tuple of a list or tuple -/
def cList : List D → Option (List D)
  | [d] => lstD d
  | _ => none
theorem ro_seq {K : PySem.W.Frag} {cm : Cm} {A : AS} {H : Hp} {v : V} {d : D} {ds : List D} (h : Ro K cm A H v d) (e : lstD d = some ds) : ∃ p xs, v = .ref p ∧ (SqL K H p xs ∨ SqT K H p xs) ∧ RpL K cm A H xs ds := by
  cases d <;> cases e
  · obtain ⟨p, xs, e, hs, r⟩ := h.tup
    exact ⟨p, xs, e, .inr hs, r⟩
  · obtain ⟨p, xs, e, hs, r⟩ := h.ls
    exact ⟨p, xs, e, .inl hs, r⟩
theorem rc_list {K : PySem.W.Frag} {cm : Cm} : RCN K cm (fun xs H Q => ∃ p ys, xs = [.ref p] ∧ (SqL K H p ys ∨ SqT K H p ys) ∧ ∀ l, H l = none → Q (.ref l) (upd H l (.lst ys))) cList := by
  intro A H vs ds es Q hd hl hr e k
  unfold cList at e
  split at e
  · obtain ⟨v, rfl, r⟩ := hr.one
    obtain ⟨p, xs, rfl, hq, rl⟩ := ro_seq r e
    exact ⟨p, xs, rfl, hq, fun l hn => k l xs hn rl⟩
  · cases e
def cTuple : List D → Option D
  | [.lst ds] => some (.tup ds)
  | [.tup ds] => some (.tup ds)
  | _ => none
theorem rc_tuple {K : PySem.W.Frag} {cm : Cm} : RC K cm (fun xs H Q => ∃ p ys, xs = [.ref p] ∧ ((SqL K H p ys ∧ ∀ l, H l = none → Q (.ref l) (upd H l (.tup ys))) ∨ (SqT K H p ys ∧ Q (.ref p) H))) cTuple := by
  intro A H vs ds dz Q hd hl hr e k
  unfold cTuple at e
  split at e
  · cases e
    obtain ⟨v, rfl, r⟩ := hr.one
    obtain ⟨p, xs, rfl, hq, rl⟩ := r.ls
    exact ⟨p, xs, rfl, .inl ⟨hq, fun l hn => k _ _ (same_new hn) (new_tup hd hn rl)⟩⟩
  · cases e
    obtain ⟨v, rfl, r⟩ := hr.one
    have rp := SqT_nil_ref r
    obtain ⟨p, xs, rfl, hq, rl⟩ := r.tup
    exact ⟨p, xs, rfl, .inr ⟨hq, k _ H (.refl H) rp⟩⟩
  · cases e
/-! ### insert -/
def mIns : List D → List D → Option (D × List D)
  | ds, [.int i, d] => if ds.length < big ∧ 0 ≤ i ∧ i.natAbs < 2 ^ 60 then some (.non, ds.take i.toNat ++ [d] ++ ds.drop i.toNat) else none
  | _, _ => none
theorem rm_ins {K : PySem.W.Frag} {cm : Cm} : RM K cm (fun x vs H Q => ∃ (l : Addr) (xs : List V) (i : Int) (y : V), x = .ref l ∧ vs = [.int i, y] ∧ H l = some (.lst xs) ∧ xs.length < sizeLine ∧ 0 ≤ i ∧ i < 2 ^ 63 ∧
    Q .non (upd H l (.lst (xs.take i.toNat ++ [y] ++ xs.drop i.toNat)))) mIns := by
  intro A H l xs vs ds es ds' z Q hl rx re e k
  unfold mIns at e
  split at e
  · split at e
    · rename_i hz
      cases e
      cases re with
      | cons r1 re => cases re with
        | cons r2 re =>
          cases re; cases r1
          refine ⟨l, xs, _, _, rfl, rfl, hl, big_lt (by rw [rx.length]; omega), hz.2.1, by omega, k _ _ .non ?_⟩
          exact ((rx.take _).app (.one r2)).app (rx.drop _)
    · cases e
  · cases e
/-! ### a call whose first argument is fresh, the others are values -/
section
variable {K : PySem.W.Frag} {cm : Cm} {A A' : AS} {H H' : Hp} {C : Fc} {σ : L2.St} {ρ ρ' : Rho} {F0 : List Addr}
theorem RS.argFs {v : V} {t : T} {vs : List V} {ds : List D} (R : RS K cm C A F0 σ H ρ) (r : RT K cm A H v t F0) (n : F0.Nodup) (hF : ∀ a ∈ F0, C.H0 a = none ∧ A a ∧ ¬ C.A0 a) (rl : RpL K cm A H vs ds) :
    RS K cm (cIn H (fun a => a ∈ F0) A (v :: vs)) A [] ((v :: vs).map some) H (.pin t :: slP ds) := by
  refine ⟨by simp [slP, rl.length], ⟨fun i => if i = 0 then F0 else [], fun i => ?_, fun i j a m m' => ?_, fun i a m => ?_, fun i e => ?_, fun i s e => ?_⟩, fun a z => z.1, fun a z => ?_, R.dom, fun _ _ e _ _ => e, fun _ e => e, R.tb, R.ne⟩
  · dsimp only; split
    · exact n
    · exact .nil
  · dsimp only at m m'
    split at m <;> split at m' <;> first | omega | (exact absurd m (by simp)) | (exact absurd m' (by simp))
  · dsimp only at m
    split at m
    · exact ⟨(hF a m).2.1, fun z => z.2 m, fun z => nomatch z⟩
    · cases m
  · dsimp only
    split
    · rename_i z; rw [z] at e; cases e
    · rfl
  · cases i with
    | zero =>
      cases e
      exact ⟨some v, rfl, v, rfl, rfl, r, fun a m => .inl m⟩
    | succ i =>
      simp only [slP, List.getElem?_cons_succ, List.getElem?_map, Option.map_eq_some_iff] at e
      obtain ⟨d, e1, rfl⟩ := e
      obtain ⟨u, e2, r2⟩ := rl.get e1
      refine ⟨some u, by simp [e2], ?_⟩
      exact ⟨u, rfl, RT.pure r2, fun a m => nomatch m⟩
  · by_cases q : a ∈ F0
    · exact .inr (.inl q)
    · exact .inl ⟨z, q⟩
end
def pls : List T → Option (List D)
  | [] => some []
  | t :: ts => t.u.bind fun d => (pls ts).map fun r => d :: r
theorem pls_ok {K : PySem.W.Frag} {cm : Cm} {A : AS} {H : Hp} : ∀ {vs : List V} {ts : List T} {F : List Addr} {ds : List D}, RTL K cm A H vs ts F → pls ts = some ds → F = [] ∧ RpL K cm A H vs ds
  | [], [], F, ds, h, e => by cases e; exact ⟨h, .nil⟩
  | v :: vs, t :: ts, F, ds, h, e => by
    simp only [pls, Option.bind_eq_some_iff, Option.map_eq_some_iff] at e
    obtain ⟨d, e1, r, e2, e3⟩ := e
    cases e3
    obtain ⟨F1, F2, rfl, h1, h2⟩ := h
    obtain ⟨rfl, rl⟩ := pls_ok h2 e2
    cases t <;> cases e1
    obtain ⟨rfl, rp⟩ := h1
    exact ⟨rfl, .cons rp rl⟩
  | [], _ :: _, _, _, h, _ => h.elim
  | _ :: _, [], _, _, h, _ => h.elim
/-- the first argument fresh (or moved), the others values -/
def nCallG (n : Nat) (f : Rho → Option (T × Rho)) (g : Mm) : Rho → Option (T × Rho) := fun ρ => (g ρ).bind fun p => match p.1 with
  | t :: ts => (pls ts).bind fun ds => if ds.length + 1 = n then (f (.pin t :: slP ds)).map fun r => (r.1, p.2) else none
  | [] => none
section
variable {X : Cx} {cm : Cm} {pos p : Pos} {e : Expr} {es : List Expr}
theorem tN_callG {K : PySem.W.Frag} {n : Nat} {m : Rho → Option (T × Rho)} {g : Mm} {σ : L2.St} {H : Hp} {Q : VK} {E : XK} (h : tN K cm (nCallG n m g) σ H Q) : tCall (spG K cm n m) [] E (tM K cm g) σ H Q := by
  obtain ⟨C, A, ρ, t, ρ', R, q, kk⟩ := h
  simp only [nCallG, Option.bind_eq_some_iff] at q
  obtain ⟨⟨ts, ρ1⟩, h1, q⟩ := q
  dsimp only at q
  split at q
  rotate_left
  · cases q
  rename_i t0 ts0
  simp only [Option.bind_eq_some_iff] at q
  obtain ⟨ds, h2, q⟩ := q
  split at q
  rotate_left
  · cases q
  rename_i hn
  rw [Option.map_eq_some_iff] at q
  obtain ⟨⟨t', ss'⟩, h3, h4⟩ := q
  cases h4
  refine ⟨C, A, ρ, t0 :: ts0, _, R, h1, fun vs H1 A1 F l1 R1 rt nd hF => ?_⟩
  show spG K cm n m (vs ++ []) H1 Q E
  rw [List.append_nil]
  match vs, rt with
  | [], q => exact q.elim
  | v :: vs, ⟨F1, F2, e, rt, rtl⟩ =>
    obtain ⟨e2, rl⟩ := pls_ok rtl h2
    subst e2
    rw [List.append_nil] at e
    subst e
    refine ⟨by rw [List.length_cons, rl.length]; exact hn, _, A1, _, _, ss', R1.argFs rt nd hF rl, h3, fun v' H' A' F' σ' lt R' rt' hnd hF' => ?_⟩
    obtain ⟨l2, R2, hF2⟩ := R1.afterF hF lt R' hF'
    exact kk v' H' A' F' (l1.trans l2) R2 rt' hnd hF2
theorem fn_callG {ps : List Str} {k j n : Nat} {x : Str} {m : Rho → Option (T × Rho)} {g : Mm} (D : Dg X.prog X.w X.K X.mg X.base cm k x ps m) (hr : Room j X.A) (hk : k ≤ j) (hg : Gl X x) (ha : FM X cm (e :: es) g) (hn : ps.length = n := by rfl)
    (hdb : (x == ("__debug__" : Str)) = false := by decide) (he : starEach (e :: es) X.env = (false, eval e X.env) :: starEach es X.env := by rfl) (hpl : (backTo pos (starEach es X.env)).any (·.1) = false := by rfl) :
    FN X cm (.Call (.Name x p) (e :: es) [] pos) (nCallG n m g) := by
  subst hn
  obtain ⟨f, fd, F, hm, hkp, hb⟩ := D
  exact (pe_call F (hr.mono hk) hg hm hkp hb .nil pass0 ha hdb he hpl).imp fun σ H Q q => tN_callG q
end
end G

/-! Ly26: extend by a fresh list. -/
namespace G
open PySem PySem.Spec L2

def eExt (i : Nat) (g : Rho → Option (T × Rho)) : Em := fun ρ => (isLs ρ i).bind fun _ => (g ρ).bind fun p => match p.1 with
  | .ls zs => (isLs p.2 i).bind fun s => if s.2.length + zs.length ≤ big then some (.val .non, p.2.set i (s.1.w (.ls (s.2 ++ zs)))) else none
  | _ => none
section
variable {X : Cx} {cm : Cm} {pos : Pos} {e o : Expr}
theorem fe_ext {i : Nat} {apos cpos : Pos} {g : Rho → Option (T × Rho)} (ho : PE X o (tVar i)) (ha : FN X cm e g)
    (hbase : attributeBase o "extend" X.env (eval o X.env) = eval o X.env := by rfl)
    (hfew : ((backTo cpos (starEach [e] X.env)).all (fun x => !x.1) && (backToKw cpos (keywordEach [] X.env)).all (fun x => x.1.isSome)
      && decide ([e].length + ([] : List Keyword).length + (if ([] : List Keyword).isEmpty then 0 else 1) < 30)) = true := by rfl)
    (hline : (apos.endLine == cpos.line) = true := by rfl) (hs : starEach [e] X.env = (false, eval e X.env) :: starEach [] X.env := by rfl) (hplain : (backTo cpos (starEach ([] : List Expr) X.env)).any (·.1) = false := by rfl) :
    FE X cm (.Call (.Attribute o "extend" apos) [e] [] cpos) (eExt i g) :=
  (pe_bm PySem.F.plainAttrs_list PySem.F.slot_list_extend PySem.F.type_list_extend mt_extend ho (fm_cons ha fm_nil hs) hbase hfew hline hs hplain).imp fun σ H Q ⟨C, A, ρ, t, ρ', R, q, k⟩ => by
    unfold eExt at q
    simp only [Option.bind_eq_some_iff] at q
    obtain ⟨⟨s0, ds0⟩, h0, ⟨t1, ρ1⟩, h1, q⟩ := q
    dsimp only at q
    split at q
    rotate_left
    · cases q
    rename_i zs
    simp only [Option.bind_eq_some_iff] at q
    obtain ⟨⟨s, ds⟩, h3, q⟩ := q
    split at q
    rotate_left
    · cases q
    rename_i hz
    cases q
    obtain ⟨e0, t0⟩ := isLs_some h0
    obtain ⟨l0, xs0, v0, hl0, _⟩ := R.list e0 t0
    refine ⟨_, v0, .inl ⟨rfl, xs0, .inl (.inl hl0)⟩, C, A, ρ, [.ls zs], ρ1, R, by simp [mCons, mNil, h1], fun vs H1 A1 F l1 R1 rt n hF => ?_⟩
    match vs, rt with
    | [], q => exact q.elim
    | _ :: _ :: _, ⟨_, _, _, _, q⟩ => exact q.elim
    | [v], ⟨F1, F2, e, rt, e2⟩ =>
      cases e2
      rw [List.append_nil] at e
      subst e
      obtain ⟨b, zs', rfl, hFb, hb, rz⟩ := rt
      obtain ⟨e1, t1'⟩ := isLs_some h3
      obtain ⟨l, xs, v1, hl, rl, put⟩ := R1.list e1 t1'
      rw [v0] at v1; cases v1
      obtain ⟨R2, l2⟩ := put (xs ++ zs') (ds ++ zs) (rl.app rz)
      refine ⟨l0, b, xs, zs', rfl, rfl, hl, hb, big_le (by rw [rl.length, rz.length]; exact hz), ?_⟩
      exact k _ _ _ ((l1.trans l2).less fun a z => z.1) (RS.drop (fun a m => (hF a m).2.2) R2) .non
end
end G

/-! Ly27: sorted of a list of texts. -/
namespace G
open PySem PySem.Spec L2

def insT (a : List Nat) : List (List Nat) → List (List Nat)
  | [] => [a]
  | b :: r => if b < a then b :: insT a r else a :: b :: r
def tsort : List (List Nat) → List (List Nat)
  | [] => []
  | a :: r => insT a (tsort r)
theorem insT_perm (a : List Nat) : ∀ l, (insT a l).Perm (a :: l)
  | [] => .refl _
  | b :: r => by
    unfold insT
    split
    · exact ((insT_perm a r).cons b).trans (.swap a b r)
    · exact .refl _
theorem tsort_perm : ∀ l, (tsort l).Perm l
  | [] => .refl _
  | a :: r => (insT_perm a _).trans ((tsort_perm r).cons a)
theorem insT_le (a : List Nat) : ∀ l : List (List Nat), l.Pairwise (· ≤ ·) → (insT a l).Pairwise (· ≤ ·)
  | [], _ => by simp [insT]
  | b :: r, h => by
    rw [List.pairwise_cons] at h
    unfold insT
    split
    · rename_i hb
      refine List.pairwise_cons.mpr ⟨fun x m => ?_, insT_le a r h.2⟩
      rcases List.mem_cons.mp ((insT_perm a r).mem_iff.mp m) with z | z
      · rw [z]; exact List.not_lt.mp (List.lt_asymm hb)
      · exact h.1 x z
    · rename_i hb
      have hab : a ≤ b := List.not_lt.mp hb
      refine List.pairwise_cons.mpr ⟨fun x m => ?_, List.pairwise_cons.mpr h⟩
      rcases List.mem_cons.mp m with z | z
      · rw [z]; exact hab
      · exact List.le_trans hab (h.1 x z)
theorem tsort_le : ∀ l, (tsort l).Pairwise (· ≤ ·)
  | [] => .nil
  | a :: r => insT_le a _ (tsort_le r)
abbrev tlS (y : Str) : List Nat := y.cps.toList
theorem S_tl (y : Str) : S (tlS y) = y := by
  cases y
  show Str.mk _ = Str.mk _
  simp
theorem rising_le : ∀ (p : Str) (ys : List Str), PyProof.Rows.risingS p ys = true → ((p :: ys).map tlS).Pairwise (· ≤ ·)
  | p, [], _ => by simp
  | p, y :: ys, r => by
    have r' : (!ltCps (tlS y) (tlS p) && PyProof.Rows.risingS y ys) = true := r
    rw [Bool.and_eq_true] at r'
    have ih := rising_le y ys r'.2
    have hle : tlS p ≤ tlS y := by
      have q := r'.1
      rw [PyProof.Rows.ltCps_eq] at q
      exact List.not_lt.mp (by simpa using q)
    rw [List.map_cons]
    refine List.pairwise_cons.mpr ⟨fun x m => ?_, ih⟩
    rw [List.map_cons] at ih m
    rcases List.mem_cons.mp m with z | z
    · rw [z]; exact hle
    · exact List.le_trans hle ((List.pairwise_cons.mp ih).1 x z)
theorem sortedS_le (ys : List Str) (r : PyProof.Rows.sortedS ys = true) : (ys.map tlS).Pairwise (· ≤ ·) := by
  cases ys with
  | nil => exact .nil
  | cons y ys => exact rising_le y ys r
theorem sorted_texts (ss : List (List Nat)) (ys : List Str) (pm : ys.Perm (ss.map S)) (r : PyProof.Rows.sortedS ys = true) : ys = (tsort ss).map S := by
  have p2 : (ys.map tlS).Perm ss := by
    have q := pm.map tlS
    rw [List.map_map] at q
    have e : ss.map (tlS ∘ S) = ss := by
      have : (tlS ∘ S) = id := funext fun s => by simp [S]
      rw [this, List.map_id]
    rwa [e] at q
  have e := List.Perm.eq_of_pairwise (fun a b _ _ h1 h2 => List.le_antisymm h1 h2) (sortedS_le ys r) (tsort_le ss) (p2.trans (tsort_perm ss).symm)
  have e2 : ys = (ys.map tlS).map S := by
    rw [List.map_map]
    have : (S ∘ tlS) = id := funext fun y => S_tl y
    rw [this, List.map_id]
  rw [e2, e]
def cSortT : List D → Option (List D)
  | [.lst ds] => (strL ds).bind fun ss => if ss.length < 64 then some ((tsort ss).map .str) else none
  | _ => none
theorem rpl_str {K : PySem.W.Frag} {cm : Cm} {A : AS} {H : Hp} : ∀ ss : List (List Nat), RpL K cm A H ((ss.map S).map V.str) (ss.map .str)
  | [] => .nil
  | s :: ss => .cons (.str s) (rpl_str ss)
theorem rc_sortT {K : PySem.W.Frag} {cm : Cm} : RCN K cm (rSortedS K) cSortT := by
  intro A H vs ds es Q hd hl hr e k
  unfold cSortT at e
  split at e
  · rw [Option.bind_eq_some_iff] at e
    obtain ⟨ss, e1, e2⟩ := e
    split at e2
    · rename_i hz
      cases e2
      obtain ⟨v, rfl, r⟩ := hr.one
      obtain ⟨a, xs, rfl, hs, rl⟩ := r.ls
      have := strL_ok rl e1
      subst this
      refine ⟨a, ss.map S, rfl, hs, by rw [List.length_map]; exact hz, fun ys p pm so hp => ?_⟩
      rw [sorted_texts ss ys pm so]
      exact k p _ hp (rpl_str _)
    · cases e2
  · cases e
end G

/-! Ly28: calls by names alone. -/
namespace G
open PySem PySem.Spec L2


/-- the values in the parameters' order -/
def pm {α : Type} (π : List Nat) (l : List α) : List α := π.filterMap fun i => l[i]?
theorem pm_pair {α β : Type} {R : α → β → Prop} {xs : List α} {ys : List β} (h : ∀ i : Nat, (xs[i]? = none ∧ ys[i]? = none) ∨ ∃ a b, xs[i]? = some a ∧ ys[i]? = some b ∧ R a b) (P : List α → List β → Prop) (p0 : P [] []) (p1 : ∀ a b as bs, R a b → P as bs → P (a :: as) (b :: bs)) : ∀ π : List Nat, P (pm π xs) (pm π ys)
  | [] => p0
  | i :: π => by
    have ih := pm_pair h P p0 p1 π
    unfold pm at ih ⊢
    rw [List.filterMap_cons, List.filterMap_cons]
    rcases h i with ⟨h1, h2⟩ | ⟨a, b, h1, h2, r⟩
    · rw [h1, h2]; exact ih
    · rw [h1, h2]; exact p1 a b _ _ r ih
theorem vals_at : ∀ {vs : List V} {us : List Value}, Vals vs us → ∀ i : Nat, (vs[i]? = none ∧ us[i]? = none) ∨ ∃ a b, vs[i]? = some a ∧ us[i]? = some b ∧ RelV a b
  | _, _, .nil, i => .inl ⟨by simp, by simp⟩
  | _, _, .cons h t, 0 => .inr ⟨_, _, rfl, rfl, h⟩
  | _, _, .cons h t, i + 1 => by simpa using vals_at t i
theorem pm_vals {vs : List V} {us : List Value} (h : Vals vs us) (π : List Nat) : Vals (pm π vs) (pm π us) := pm_pair (vals_at h) (fun a b => Vals a b) .nil (fun _ _ _ _ r t => .cons r t) π
theorem rpl_at {K : PySem.W.Frag} {cm : Cm} {A : AS} {H : Hp} : ∀ {vs : List V} {ds : List D}, RpL K cm A H vs ds → ∀ i : Nat, (vs[i]? = none ∧ ds[i]? = none) ∨ ∃ a b, vs[i]? = some a ∧ ds[i]? = some b ∧ Rp K cm A H a b
  | _, _, .nil, i => .inl ⟨by simp, by simp⟩
  | _, _, .cons h t, 0 => .inr ⟨_, _, rfl, rfl, h⟩
  | _, _, .cons h t, i + 1 => by simpa using rpl_at t i
theorem pm_rpl {K : PySem.W.Frag} {cm : Cm} {A : AS} {H : Hp} {vs : List V} {ds : List D} (h : RpL K cm A H vs ds) (π : List Nat) : RpL K cm A H (pm π vs) (pm π ds) := pm_pair (rpl_at h) (fun a b => RpL K cm A H a b) .nil (fun _ _ _ _ r t => .cons r t) π
/-- a def that stands at its name, called by names -/
def Dk (P : Program) (w : World) (K : PySem.W.Frag) (mg : Str → Option Value) (base : Heap) (cm : Cm) (k : Nat) (x : Str) (ps ks : List Str) (π : List Nat) (m : Rho → Option (T × Rho)) : Prop :=
  ∃ f fd, FnG P w K mg base cm k f fd ps m ∧ mg x = some (.ref f) ∧ PySem.W.keepIn K (.ref f) = true ∧ KBn K fd ps 0 ks (fun _ ws => pm π ws) (fun _ zs => pm π zs)
theorem Dn.kb {K : PySem.W.Frag} {mg : Str → Option Value} {x : Str} {st : Stmt} {ps : List Str} {f : Addr} {fd : FuncData} (D : Dn K mg x st ps f fd) (ks : List Str) (π : List Nat)
    (h : ∀ (kV doc pmv : Value) (an : Option Addr) (cdv ct : Value) (ws : List Value), ws.length = ks.length → bindArgs (PySem.W.fnOf x x (defArgs st) (defBody st) (defScope st) .none kV doc pmv an cdv ct) ⟨[], ks.zip ws⟩ = pure (ps.zip (pm π ws))) : KBn K fd ps 0 ks (fun _ ws => pm π ws) (fun _ zs => pm π zs) := by
  obtain ⟨oc, od, kV, doc, pmv, an, cdv, ct, osl, rfl, lk, hcd⟩ := D.F.ex
  refine ⟨fun s us ws X l1 l2 => ?_, fun r1 r2 => pm_vals r2 π⟩
  obtain rfl := List.eq_nil_of_length_eq_zero l1
  exact .of_eq (h kV doc pmv an cdv ct ws l2)
theorem Dn.mk' {P : Program} {w : World} {K : PySem.W.Frag} {mg : Str → Option Value} {base : Heap} {cm : Cm} {x : Str} {st : Stmt} {ps : List Str} {f : Addr} {fd : FuncData} {k : Nat} {m : Rho → Option (T × Rho)} (D : Dn K mg x st ps f fd) (G : FnG P w K mg base cm k f fd ps m) : Dg P w K mg base cm k x ps m := ⟨f, fd, G, D.m, D.F.kp, D.b⟩
theorem Dn.mkK {P : Program} {w : World} {K : PySem.W.Frag} {mg : Str → Option Value} {base : Heap} {cm : Cm} {x : Str} {st : Stmt} {ps : List Str} {f : Addr} {fd : FuncData} {k : Nat} {m : Rho → Option (T × Rho)} (D : Dn K mg x st ps f fd) (G : FnG P w K mg base cm k f fd ps m) (ks : List Str) (π : List Nat)
    (h : ∀ (kV doc pmv : Value) (an : Option Addr) (cdv ct : Value) (ws : List Value), ws.length = ks.length → bindArgs (PySem.W.fnOf x x (defArgs st) (defBody st) (defScope st) .none kV doc pmv an cdv ct) ⟨[], ks.zip ws⟩ = pure (ps.zip (pm π ws))) : Dk P w K mg base cm k x ps ks π m := ⟨f, fd, G, D.m, D.F.kp, D.kb ks π h⟩
section
variable {X : Cx} {cm : Cm} {pos p kpos : Pos} {e : Expr} {kws : List Keyword} {nm : Option Str}
theorem _root_.L2.PK.imp {t t' : TA} (h : PK X kws t) (i : ∀ σ H Q, t' σ H Q → t σ H Q) : PK X kws t' := ⟨fun pos pins s σ H Q I q => h.run pos pins s σ H Q I (i σ H Q q)⟩
abbrev FK (X : Cx) (cm : Cm) (kws : List Keyword) (f : Am) : Prop := PK X kws (tAs X.K cm f)
theorem fk_nil : FK X cm [] aNil := pk_nil.imp fun σ H Q ⟨C, A, ρ, t, ρ', R, q, k⟩ => by
  cases q
  exact k [] H A (.refl A H) R .nil
theorem fk_cons {f : Em} {g : Am} (ha : FE X cm e f) (hr : FK X cm kws g) : FK X cm (⟨nm, e, kpos⟩ :: kws) (aCons f g) := (pk_cons ha hr).imp fun σ H Q ⟨C, A, ρ, t, ρ', R, q, k⟩ => by
  simp only [aCons, Option.bind_eq_some_iff, Option.map_eq_some_iff] at q
  obtain ⟨⟨r, ρ1⟩, h1, ⟨rs, ρ2⟩, h2, h3⟩ := q
  cases h3
  exact ⟨C, A, ρ, r, ρ1, R, h1, fun v H1 A1 l1 R1 w1 => ⟨C, A1, ρ1, rs, ρ2, R1, h2, fun vs H2 A2 l2 R2 w2 => k _ H2 A2 (l1.trans l2) R2 (.cons (w1.later l2) w2)⟩⟩
def nCallK (n : Nat) (π : List Nat) (f : Rho → Option (T × Rho)) (g : Am) : Rho → Option (T × Rho) := fun ρ => (g ρ).bind fun p => (pus p.2 p.1).bind fun ds => if ds.length = n ∧ (pm π ds).length = n then (f (slP (pm π ds))).map fun r => (r.1, p.2) else none
theorem fn_callK {ps ks : List Str} {π : List Nat} {k j n : Nat} {x : Str} {m : Rho → Option (T × Rho)} {g : Am} (D : Dk X.prog X.w X.K X.mg X.base cm k x ps ks π m) (hr : Room j X.A) (hk : k ≤ j) (hg : Gl X x) (hkw : FK X cm kws g) (hn : ps.length = n := by rfl) (hn2 : ks.length = n := by rfl)
    (hall : (backToKw pos (keywordEach kws X.env)).all (·.1.isSome) = true := by rfl) (hks : (backToKw pos (keywordEach kws X.env)).filterMap (·.1) = ks := by rfl) (hdb : (x == ("__debug__" : Str)) = false := by decide)
    (hpl : ((backTo pos (starEach [] X.env)).any (·.1) || (backToKw pos (keywordEach kws X.env)).any (·.1.isNone)) = false := by rfl) : FN X cm (.Call (.Name x p) [] kws pos) (nCallK n π m g) := by
  subst hn
  obtain ⟨f, fd, F, hm, hkp, hb⟩ := D
  refine ⟨fun pins s σ H Q I ⟨C, A, ρ, t, ρ', R, q, kk⟩ => ?_⟩
  unfold nCallK at q
  simp only [Option.bind_eq_some_iff] at q
  obtain ⟨⟨rs, ρ1⟩, h1, ds, h2, h3⟩ := q
  dsimp only at h3
  split at h3
  rotate_left
  · cases h3
  rename_i hlen
  rw [Option.map_eq_some_iff] at h3
  obtain ⟨⟨t', ss'⟩, h4, h5⟩ := h3
  cases h5
  refine wpAny_Call_Name_kw (ld_glob I hg hm ?_ hdb)
  refine PySem.W.callWith_KW0 (h₀ := X.base) I.ok.mod.kin hkp hall ?_ hpl
  refine thn (hkw.run pos pins s σ H (fun zs H2 => zs.length = ps.length ∧ spG X.K cm ps.length m (pm π zs) H2 Q E0) I ⟨C, A, ρ, rs, _, R, h1, fun vs H1 A1 l1 R1 w1 => ?_⟩) fun ws s2 ⟨zs, H2, I2, rz, l2, q2⟩ => ⟨I2.kIn, ?_⟩
  · have rl := pus_ok R1 w1 h2
    exact ⟨by rw [rl.length]; exact hlen.1, spG_of R1 (pm_rpl rl π) hlen.2 h4 fun v H' A' F l R2 rt hnd hF => kk v H' A' F (l1.trans l) R2 rt hnd hF⟩
  · rw [hks]
    exact run_fnN (us := []) (vs := []) F (hr.mono hk) hb pass0 I2 .nil rz rfl (by rw [l2, hn2]) q2
end
end G

/-! Ly29: comprehensions of two. -/
namespace G
open PySem PySem.Spec L2

def lc2F (own own1 : List Nat) (h : D → Rho → Option Rho) (ifs : Bm) (f1 : Im) (h1 : D → Rho → Option Rho) (ifs1 : Bm) (elt : Em) : List D → Rho → Option (List D × Rho)
  | [], ρ => some ([], ρ)
  | d :: ds, ρ => (h d ρ).bind fun ρ1 => (ifs ρ1).bind fun p => if p.1 then (f1 p.2).bind fun q => (wipeS own1 q.2).bind fun ρ2 => (lcF own1 h1 ifs1 elt q.1 ρ2).bind fun r => (wipeS own r.2).bind fun ρ3 => (lc2F own own1 h ifs f1 h1 ifs1 elt ds ρ3).map fun z => (r.1 ++ z.1, z.2)
      else (wipeS own p.2).bind fun ρ3 => lc2F own own1 h ifs f1 h1 ifs1 elt ds ρ3
def nLc2 (own own1 : List Nat) (f : Im) (h : D → Rho → Option Rho) (ifs : Bm) (f1 : Im) (h1 : D → Rho → Option Rho) (ifs1 : Bm) (elt : Em) : Rho → Option (T × Rho) := fun ρ => (f ρ).bind fun p => (wipeS own p.2).bind fun ρw => (lc2F own own1 h ifs f1 h1 ifs1 elt p.1 ρw).bind fun r => if r.1.length ≤ big then some (.ls r.1, back p.2 r.2 own) else none
theorem wipe_sub {σ : L2.St} {own own1 : List Nat} (hv : ∀ i ∈ own1, i ∈ own) : wipe (wipe σ own1) own = wipe σ own := wipe_same (wipe_length σ own1) fun j hj => by rw [wipe_get, if_neg (fun z => hj (hv j z.1))]
section
variable {X : Cx} {cm : Cm} {pos : Pos} {elt tg iter tg1 iter1 : Expr} {ifs ifs1 : List Expr}
theorem tLc2_core {K : PySem.W.Frag} {wi : TI} {own own1 is is1 : List Nat} {ds all : List D} {h h1 : D → Rho → Option Rho} {g g1 : Bm} {f1 : Im} {el : Em} {σ : L2.St} {H : Hp} {Q : VK} {C : Fc} {A : AS} {ρ1 ρw ρ2 : Rho} (hv : ∀ i ∈ own1, i ∈ own) (hsub : ∀ i ∈ is, i ∈ own) (hsub1 : ∀ i ∈ is1, i ∈ own1)
    (hw : ∀ R' : It → Hp → Prop, (∀ J H1 A1 W, Lt C A H A1 H1 → RS K cm C A1 [] σ H1 ρ1 → ItOk K cm J W ds → W A1 H1 → R' J H1) → wi σ H R') (hbig : all.length ≤ big) (h2 : wipeS own ρ1 = some ρw) (h3 : lc2F own own1 h g f1 h1 g1 el ds ρw = some (all, ρ2))
    (k : ∀ v H' A' F, Lt C A H A' H' → RS K cm C A' F σ H' (back ρ1 ρ2 own) → RT K cm A' H' v (.ls all) F → F.Nodup → (∀ a ∈ F, C.H0 a = none ∧ A' a ∧ ¬ C.A0 a) → Q v H') : tLc2 wi (tG K cm is h) (tT K cm g) (tI K cm f1) (tG K cm is1 h1) (tT K cm g1) (tE K cm el) own own1 σ H Q := by
  refine hw _ fun J H1 A1 W l1 R1 hJ w1 D hD => ?_
  obtain ⟨lD, RD, hF⟩ := G.own1 (o := .lst []) R1 hD
  have hA0 : ¬ C.A0 D := (hF D (by simp)).2.2
  have hH0 : C.H0 D = none := (hF D (by simp)).1
  have RW := (RD.plus (.inr rfl)).wipe h2
  refine ⟨fun i m Hc => m = ds.length - i ∧ i ≤ ds.length ∧ ∃ Ac ρc acc dacc ys, Lt C A1 H1 Ac Hc ∧ RS K cm (C.plus D) Ac [] (wipe σ own) Hc ρc ∧ W Ac Hc ∧ Hc D = some (.lst acc) ∧ RpL K cm Ac Hc acc dacc ∧ Ac D ∧ lc2F own own1 h g f1 h1 g1 el (ds.drop i) ρc = some (ys, ρ2) ∧ dacc ++ ys = all,
    ⟨ds.length, by simp, Nat.zero_le _, _, ρw, [], [], all, lD, RW, hJ.stay _ _ _ _ w1 lD.l, upd_same, .nil, .inr rfl, h3, rfl⟩, ?_⟩
  rintro i m Hc ⟨rfl, hi, Ac, ρc, acc, dacc, ys, lc, Rc, wc, hc, rc, hAc, qc, hall⟩
  by_cases hlt : i < ds.length
  · rw [drop_cons_of hlt] at qc
    simp only [lc2F, Option.bind_eq_some_iff] at qc
    obtain ⟨ρ3, q3, ⟨b, ρ4⟩, q4, q5⟩ := qc
    refine .inr ⟨hJ.go Ac Hc i wc hlt, fun H' => i + 1 ≤ ds.length ∧ ∃ Ac ρc acc dacc ys, Lt C A1 H1 Ac H' ∧ RS K cm (C.plus D) Ac [] (wipe σ own) H' ρc ∧ W Ac H' ∧ H' D = some (.lst acc) ∧ RpL K cm Ac H' acc dacc ∧ Ac D ∧ lc2F own own1 h g f1 h1 g1 el (ds.drop (i + 1)) ρc = some (ys, ρ2) ∧ dacc ++ ys = all,
      fun H' h' => ⟨ds.length - (i + 1), by omega, rfl, h'⟩, fun x H3 hy => ?_⟩
    obtain ⟨g3, r3⟩ := hJ.yld Ac Hc i x H3 ds[i] wc Rc.dom (List.getElem?_eq_getElem hlt) hy
    have R3 := Rc.grow g3
    have l3 : Lt (C.plus D) Ac Hc Ac H3 := .same g3
    refine ⟨C.plus D, Ac, ρc, ds[i], ρ3, R3, r3, q3, fun σ2 H4 A4 l4 R4 el2 fe2 => ?_⟩
    have hw2 : wipe σ2 own = wipe σ own := by
      rw [← wipe_wipe σ own]
      exact wipe_same el2 fun j hj => fe2 j fun z => hj (hsub j z)
    refine ⟨hw2, C.plus D, A4, ρ3, b, ρ4, R4, q4, fun H5 A5 l5 R5 => ?_⟩
    have l35 := (l3.trans l4).trans l5
    cases b with
    | false =>
      simp only [Bool.false_eq_true, if_false, Option.bind_eq_some_iff] at q5
      obtain ⟨ρ5, q6, q7⟩ := q5
      have R6 := R5.wipe q6
      rw [hw2] at R6
      exact iteF ⟨hlt, A5, ρ5, acc, dacc, ys, lc.trans l35.of_plus, R6, hJ.stay _ _ _ _ wc l35.l, l35.o D _ (.inr rfl) hc pl_lst.1, rc.later l35.l, R5.out D (.inr rfl), q7, hall⟩
    | true =>
      simp only [if_true, Option.bind_eq_some_iff, Option.map_eq_some_iff] at q5
      obtain ⟨⟨ds1, ρ5⟩, q6, ρ6, q7, ⟨ys1, ρ7⟩, q8, ρ8, q9, ⟨ys2, ρ9⟩, q10, q11⟩ := q5
      cases q11
      refine iteT ⟨C.plus D, A5, ρ4, ds1, ρ5, R5, q6, fun J1 H6 A6 W6 l6 R6 hJ1 w6 => ?_⟩
      have l36 := l35.trans l6
      have R6w := R6.wipe q7
      refine ⟨fun j m1 Hi => m1 = ds1.length - j ∧ j ≤ ds1.length ∧ ∃ Ai ρi acci dacci zs, Lt C A1 H1 Ai Hi ∧ Later Ac Hc Ai Hi ∧ RS K cm (C.plus D) Ai [] (wipe σ2 own1) Hi ρi ∧ W6 Ai Hi ∧ Hi D = some (.lst acci) ∧ RpL K cm Ai Hi acci dacci ∧ Ai D ∧ lcF own1 h1 g1 el (ds1.drop j) ρi = some (zs, ρ7) ∧ dacci ++ zs = dacc ++ ys1,
        ⟨ds1.length, by simp, Nat.zero_le _, A6, ρ6, acc, dacc, ys1, lc.trans l36.of_plus, l36.l, R6w, w6, l36.o D _ (.inr rfl) hc pl_lst.1, rc.later l36.l, R6.out D (.inr rfl), q8, rfl⟩, ?_⟩
      rintro j m1 Hi ⟨rfl, hj, Ai, ρi, acci, dacci, zs, li, lti, Ri, wi', hDi, rci, hAi, qi, halli⟩
      by_cases hlt1 : j < ds1.length
      · rw [drop_cons_of hlt1] at qi
        simp only [lcF, Option.bind_eq_some_iff] at qi
        obtain ⟨ρa, qa, ⟨b1, ρb⟩, qb, qc'⟩ := qi
        refine .inr ⟨hJ1.go Ai Hi j wi' hlt1, fun Hn => j + 1 ≤ ds1.length ∧ ∃ Ai ρi acci dacci zs, Lt C A1 H1 Ai Hn ∧ Later Ac Hc Ai Hn ∧ RS K cm (C.plus D) Ai [] (wipe σ2 own1) Hn ρi ∧ W6 Ai Hn ∧ Hn D = some (.lst acci) ∧ RpL K cm Ai Hn acci dacci ∧ Ai D ∧ lcF own1 h1 g1 el (ds1.drop (j + 1)) ρi = some (zs, ρ7) ∧ dacci ++ zs = dacc ++ ys1,
          fun Hn hn => ⟨ds1.length - (j + 1), by omega, rfl, hn⟩, fun x1 Hy hy1 => ?_⟩
        obtain ⟨gy, ry1⟩ := hJ1.yld Ai Hi j x1 Hy ds1[j] wi' Ri.dom (List.getElem?_eq_getElem hlt1) hy1
        have Ry := Ri.grow gy
        have ly : Lt (C.plus D) Ai Hi Ai Hy := .same gy
        refine ⟨C.plus D, Ai, ρi, ds1[j], ρa, Ry, ry1, qa, fun σ3 Ha Aa la Ra ela fea => ?_⟩
        have hw3 : wipe σ3 own1 = wipe σ2 own1 := by
          rw [← wipe_wipe σ2 own1]
          exact wipe_same ela fun q hq => fea q fun z => hq (hsub1 q z)
        refine ⟨hw3, C.plus D, Aa, ρa, b1, ρb, Ra, qb, fun Hb Ab lb Rb => ?_⟩
        have lyb := (ly.trans la).trans lb
        cases b1 with
        | false =>
          simp only [Bool.false_eq_true, if_false, Option.bind_eq_some_iff] at qc'
          obtain ⟨ρe, qe, qf⟩ := qc'
          have Re := Rb.wipe qe
          rw [hw3] at Re
          exact iteF ⟨hlt1, Ab, ρe, acci, dacci, zs, li.trans lyb.of_plus, lti.trans lyb.l, Re, hJ1.stay _ _ _ _ wi' lyb.l, lyb.o D _ (.inr rfl) hDi pl_lst.1, rci.later lyb.l, Rb.out D (.inr rfl), qf, halli⟩
        | true =>
          simp only [if_true, Option.bind_eq_some_iff, Option.map_eq_some_iff] at qc'
          obtain ⟨⟨rv, ρd⟩, qd, yv, qe, ρf, qf, ⟨zs', ρg⟩, qg, qh⟩ := qc'
          cases qh
          refine iteT ⟨C.plus D, Ab, ρb, rv, ρd, Rb, qd, fun v Hd Ad ld Rd' wd => ?_⟩
          have lyd := lyb.trans ld
          have hDd := lyd.o D _ (.inr rfl) hDi pl_lst.1
          have rv' := pu_ok Rd' wd qe
          have hAd := Rd'.out D (.inr rfl)
          obtain ⟨lu, Ru⟩ := Rd'.updOut (o := .lst (acci ++ [v])) hAd (.inr rfl) hH0 hDd pl_lst
          have Ruw := Ru.wipe qf
          rw [hw3] at Ruw
          have lt : Lt C A1 H1 Ad (upd Hd D (.lst (acci ++ [v]))) := (li.trans lyd.of_plus).trans ⟨lu, fun a o z e _ => by rw [upd_ne (fun w => hA0 (by rw [← w]; exact z))]; exact e⟩
          refine ⟨acci, hDd, big_lt ?_, hlt1, Ad, ρf, acci ++ [v], dacci ++ [yv], zs', lt, (lti.trans lyd.l).trans lu, Ruw, hJ1.stay _ _ _ _ (hJ1.stay _ _ _ _ wi' lyd.l) lu, upd_same, ((rci.later lyd.l).later lu).app (.one (rv'.later lu)), hAd, qg, by rw [List.append_assoc]; exact halli⟩
          have e1 := rci.length
          have e2 := congrArg List.length halli
          have e3 := congrArg List.length hall
          simp only [List.length_append, List.length_cons] at e2 e3
          omega
      · rw [List.drop_of_length_le (by omega)] at qi
        cases qi
        refine .inl ⟨hJ1.stop Ai Hi j wi' (by omega), hlt, Ai, ρ8, acci, dacci, ys2, li, ?_, hJ.stay _ _ _ _ wc lti, hDi, rci, hAi, q10, ?_⟩
        · have Rz := Ri.wipe q9
          rw [wipe_sub hv, hw2] at Rz
          exact Rz
        · rw [List.append_nil] at halli
          rw [halli, List.append_assoc]; exact hall
  · rw [List.drop_of_length_le (by omega)] at qc
    cases qc
    refine .inl ⟨hJ.stop Ac Hc i wc (by omega), ?_⟩
    rw [List.append_nil] at hall
    subst hall
    refine k _ Hc Ac [D] (l1.trans lc) (RS.back R1 h2 lc (Rc.minus hH0)) ⟨D, acc, rfl, rfl, hc, rc⟩ (by simp) fun a m => ?_
    obtain rfl : a = D := by simpa using m
    exact ⟨hH0, hAc, hA0⟩
theorem fn_lc2 {own : List (Str × Nat)} {own1 : List Nat} {scope : Scope} {is is1 : List Nat} {f f1 : Im} {h h1 : D → Rho → Option Rho} {g g1 : Bm} {el : Em} (hc : X.calm = true) (hN : X.N.Nodup) (hi : FI X cm tg iter f) (ok : BlkOk X.N X.env.scope scope own) (hv : ∀ i ∈ own1, i ∈ own.map (·.2))
    (hg : ∀ (s : Shared) (H : Hp) (C : Addr) (cl : List (Str × Addr)) (fp : List Addr), FG (X.blk s H scope (compEnvC scope cl C X.env) fp) cm tg is h) (ht : ∀ (s : Shared) (H : Hp) (C : Addr) (cl : List (Str × Addr)) (fp : List Addr), FTs (X.blk s H scope (compEnvC scope cl C X.env) fp) cm ifs g)
    (hi1 : ∀ (s : Shared) (H : Hp) (C : Addr) (cl : List (Str × Addr)) (fp : List Addr), FI (X.blk s H scope (compEnvC scope cl C X.env) fp) cm tg1 iter1 f1)
    (hg1 : ∀ (s : Shared) (H : Hp) (C : Addr) (cl : List (Str × Addr)) (fp : List Addr), FG (X.blk s H scope (compEnvC scope cl C X.env) fp) cm tg1 is1 h1) (ht1 : ∀ (s : Shared) (H : Hp) (C : Addr) (cl : List (Str × Addr)) (fp : List Addr), FTs (X.blk s H scope (compEnvC scope cl C X.env) fp) cm ifs1 g1)
    (he : ∀ (s : Shared) (H : Hp) (C : Addr) (cl : List (Str × Addr)) (fp : List Addr), FE (X.blk s H scope (compEnvC scope cl C X.env) fp) cm elt el) (hsub : ∀ i ∈ is, i ∈ own.map (·.2)) (hsub1 : ∀ i ∈ is1, i ∈ own1) (hs : ∀ x, foldedSetIterable iter X.env x = pure x := by intro _; rfl) (hs1 : ∀ env x, foldedSetIterable iter1 env x = pure x := by intro _ _; rfl) :
    FN X cm (.ListComp elt [⟨tg, iter, ifs, 0⟩, ⟨tg1, iter1, ifs1, 0⟩] scope pos) (nLc2 (own.map (·.2)) own1 f h g f1 h1 g1 el) :=
  (pe_lc2 hc hN hi ok hv hg ht hi1 hg1 ht1 he hs hs1).imp fun σ H Q hh => by
    obtain ⟨C, A, ρ, t, ρ', R, q, k⟩ := hh
    unfold nLc2 at q
    simp only [Option.bind_eq_some_iff] at q
    obtain ⟨⟨ds, ρ1⟩, h1, ρw, h2, ⟨all, ρ2⟩, h3, h4⟩ := q
    split at h4
    rotate_left
    · cases h4
    rename_i hbig
    cases h4
    exact tLc2_core hv hsub hsub1 (fun R' hR => ⟨C, A, ρ, ds, ρ1, R, h1, hR⟩) hbig h2 h3 k
end
end G

/-! Ly30: enumerate, zip over texts. -/
namespace G
open PySem PySem.Spec PyProof.Rows L2

/-- n turns, each a new tuple -/
def Itw (n : Nat) (item : Nat → List V) : It :=
  ⟨fun i _ => i < n, fun i H v H' => ∃ T, v = .ref T ∧ H T = none ∧ H' = upd H T (.tup (item i)), fun i _ => n ≤ i⟩
theorem turn_wt {P : Program} {w : World} {K : PySem.W.Frag} {elts : List Expr} {kk : Nat} {tpos : Pos} {it : Addr} {fp wr : List Addr} {n : Nat} {Pt : Nat → Array Value → Prop} {St : Nat → Heap → Prop} {Mid : Nat → Addr → Heap → Prop} {item : Nat → List V}
    (W : ∀ A : Around, A.handled = none → WalksT P w A it fp wr n Pt St Mid) (hm : it ∈ fp) (live : ∀ i h, St i h → ∀ b ∈ fp, ∃ o, h.get? b = some o ∧ ∀ v, o.data ≠ .cell v)
    (hPt : ∀ i vals, Pt i vals → Vals (item i) vals.toList ∧ (item i).length ≤ sizeLine)
    (self : ∀ (A : Around) (i : Nat) (s : Shared) (Q : Value → Shared → Prop) (E : Value → Shared → Prop), St i s.heap → Q (.ref it) s → wpAny (model P w) A (pyIter (.ref it)) Q E s) : Turn P w K (.Tuple elts kk tpos) (Itw n item) fp it (fun i h => i ≤ n ∧ St i h) where
  mem := hm
  obj := fun i h st => live i h st.2
  keep := fun i h h' st k => by
    exact ⟨st.1, (W {} rfl).frame i h h' st.2 k⟩
  item := by
    intro X hP hw hK hc i pins s σ H E I hf st hg
    subst hP hw hK
    have Wx := W X.A (I.ok.hd hc)
    refine Wx.item i s _ E hg st.2 fun T vals h' tk hp hT hTup hMid hk => ⟨_, rfl, Wx.go elts kk tpos i T { s with heap := h', toks := tk } _ E hMid fun h'' st'' hk'' => ?_⟩
    obtain ⟨rv, hz⟩ := hPt i vals hp
    obtain ⟨o, ho, hcl, m, hd⟩ := hTup
    have hT2 : h''.get? T = some o := hk'' T o (Wx.apart i T h' hMid) ho
    have new : ObjOk X.prog X.w (upd H T (.tup (item i))) h'' T (.tup (item i)) := ⟨hz, vals.toList, rv, ⟨o, hT2, hcl, m, by rw [hd]⟩⟩
    have keepAll : ∀ b ob, b ∉ fp → s.heap.get? b = some ob → h''.get? b = some ob := fun b ob hb q => hk'' b ob (fun z => hb (Wx.sub b z)) (hk b ob (fun z => hb (Wx.sub b z)) q)
    have I1 : Inv X pins σ (upd H T (.tup (item i))) { s with heap := h'', toks := tk } := I.turnedNew (ch := fp) keepAll hf hT new
    refine ⟨.ref T, _, I1, rfl, ⟨T, rfl, I.hok.fresh hT, rfl⟩, ⟨hg, st''⟩, fun b hb => ?_⟩
    obtain ⟨ob, hob, _⟩ := live i s.heap st.2 b hb
    rw [upd_ne (Nat.ne_of_lt (Nat.lt_of_lt_of_le (Heap.lt_size hob) hT))]
    exact (hf b hb).1
  done := by
    intro X hP hw hK hc i pins s σ H E I hf st hg
    subst hP hw hK
    have Wx := W X.A (I.ok.hd hc)
    have e : i = n := Nat.le_antisymm st.1 hg
    subst e
    exact Wx.done s _ E st.2 fun h' tk hk => ⟨rfl, I.turnedL (ch := fp) (fun b o hb q => hk b o (fun z => hb (Wx.sub b z)) q) hf⟩
  self := fun A i s Q E st h => self A i s Q E st.2 h
/-- a sign of a text, as a value -/
def sgV (x : List Nat) (i : Nat) : V := .str (S [x.getD i 0])
theorem sg_of {x : List Nat} {i c : Nat} {v : Value} {u : Tok} (h : (S x).cps[i]? = some c) (e : v = .str ⟨#[c]⟩ u) : RelV (sgV x i) v := by
  have h2 : x[i]? = some c := by simpa [S] using h
  unfold sgV
  rw [List.getD_eq_getElem?_getD, h2, e]
  exact ⟨u, rfl⟩
theorem str_live {h : Heap} {it : Addr} {T : String} {x : Str} {t : Tok} {i : Nat} (st : h.IsStrIter it T x t i) : ∃ o, h.get? it = some o ∧ ∀ v, o.data ≠ .cell v := by
  obtain ⟨o, ho, hc, hd⟩ := st
  exact ⟨o, ho, fun v z => by rw [hd] at z; cases z⟩
section
variable {X : Cx} {cm : Cm} {pos : Pos} {e e2 : Expr}
def iEnT (ta : TA) : TI := fun σ H R => ta σ H fun vs H1 => ∃ x : List Nat, vs = [.str (S x)] ∧ R (Itw x.length fun i => [.int (i : Nat), sgV x i]) H1
theorem pi_enT {ta : TA} {p tpos : Pos} {elts : List Expr} {kk : Nat} (hg : Gl X "enumerate") (hm : X.mg "enumerate" = none) (ha : PA X [e] ta) (hs : starEach [e] X.env = [(false, eval e X.env)] := by rfl) :
    PI X (.Tuple elts kk tpos) (.Call (.Name "enumerate" p) [e] [] pos) (iEnT ta) := by
  refine ⟨fun pins s σ H R I h => ?_⟩
  refine Call_ (ld_blt I hg hm boot_enumerate (PyProof.Rows.callWith_type1 (thn (ha.run pos pins s σ H _ I h) fun us s1 ⟨vs, H1, I1, r1, q1⟩ => ?_) hs rfl))
  obtain ⟨x, rfl, q⟩ := q1
  cases r1 with
  | cons r rr =>
    cases rr
    obtain ⟨t, rfl⟩ := r
    refine call_enumerate_str fun h' he hit hsz hk => wpAny_pyIter_enum he ?_
    have I2 : Inv X pins σ H1 { s1 with heap := h' } := I1.kept (t' := s1.toks) hk
    refine ⟨s1.heap.objs.size + 1, [s1.heap.objs.size + 1, s1.heap.objs.size], _, _, H1, rfl, I2,
      turn_wt (item := fun i => [.int (i : Nat), sgV x i]) (fun A hA => WalksT.enumFrom 0 (Draws.text (A := A.in1) hA s1.heap.objs.size (S x) t) (s1.heap.objs.size + 1) (Nat.succ_ne_self _) (by simp) (by simp)) (by simp) (fun i h st b hb => ?_) (fun i vals hp => ?_) (fun A i s Q E st h => ?_), ⟨Nat.zero_le _, ⟨.none, he⟩, hit⟩, fun b hb => ?_, ?_⟩
    · obtain ⟨⟨old, he⟩, st2⟩ := st
      have e' : b = s1.heap.objs.size + 1 ∨ b = s1.heap.objs.size := by simpa using hb
      rcases e' with z | z
      · rw [z]; exact ⟨_, he, fun v q => nomatch q⟩
      · rw [z]; exact str_live st2
    · obtain ⟨t2, y, ⟨c, u, hc, ey⟩, rfl⟩ := hp
      refine ⟨.cons ⟨t2, ?_⟩ (.cons (sg_of hc ey) .nil), by show 2 ≤ sizeLine; decide⟩
      rw [Int.zero_add]
    · obtain ⟨⟨old, he⟩, st2⟩ := st
      exact wpAny_pyIter_enum he h
    · have hle : s1.heap.objs.size ≤ b := by
        have e' : b = s1.heap.objs.size + 1 ∨ b = s1.heap.objs.size := by simpa using hb
        rcases e' with z | z
        · rw [z]; exact Nat.le_add_right _ _
        · rw [z]; exact Nat.le_refl _
      exact I1.fpOk hle (I1.hok.fresh hle)
    · have ez : (S x).cps.size = x.length := by simp [S]
      rw [ez]; exact q
def iZiT (ta : TA) : TI := fun σ H R => ta σ H fun vs H1 => ∃ x y : List Nat, vs = [.str (S x), .str (S y)] ∧ R (Itw (min x.length y.length) fun i => [sgV x i, sgV y i]) H1
theorem pi_ziT {ta : TA} {p tpos : Pos} {elts : List Expr} {kk : Nat} (hg : Gl X "zip") (hm : X.mg "zip" = none) (ha : PA X [e, e2] ta)
    (hs : starEach [e, e2] X.env = (false, eval e X.env) :: starEach [e2] X.env := by rfl) (hpl : (backTo pos (starEach [e2] X.env)).any (·.1) = false := by rfl) :
    PI X (.Tuple elts kk tpos) (.Call (.Name "zip" p) [e, e2] [] pos) (iZiT ta) := by
  refine ⟨fun pins s σ H R I h => ?_⟩
  refine Call_ (ld_blt I hg hm PyProof.Rows.boot_zip (PyProof.Rows.callWith_type1 (thn (ha.run pos pins s σ H _ I h) fun us s1 ⟨vs, H1, I1, r1, q1⟩ => ?_) hs hpl))
  obtain ⟨x, y, rfl, q⟩ := q1
  cases r1 with
  | cons r rr =>
    cases rr with
    | cons r' rr =>
      cases rr
      obtain ⟨t, rfl⟩ := r
      obtain ⟨t', rfl⟩ := r'
      refine zip_begins2 (begins_text (S x) t) (begins_text (S y) t') trivial trivial fun h' hz hTI hTO h1 h2 hsz hk => wpAny_pyIter_zip hz ?_
      have I2 : Inv X pins σ H1 { s1 with heap := h' } := I1.kept (t' := s1.toks) hk
      have sep : ZipSep2 (s1.heap.objs.size + 4) (s1.heap.objs.size + 2) (s1.heap.objs.size + 3) s1.heap.objs.size (s1.heap.objs.size + 1) [s1.heap.objs.size] [s1.heap.objs.size + 1] := zip_sep2 (fp1 := []) (fp2 := []) (fun b z => nomatch z) (fun b z => nomatch z)
      refine ⟨s1.heap.objs.size + 4, (s1.heap.objs.size + 4) :: (s1.heap.objs.size + 2) :: (s1.heap.objs.size + 3) :: ([s1.heap.objs.size] ++ [s1.heap.objs.size + 1]), _, _, H1, rfl, I2,
        turn_wt (item := fun i => [sgV x i, sgV y i]) (fun A hA => WalksT.zipD2 (A := A) sep (Draws.text (A := A.in1) hA s1.heap.objs.size (S x) t) (Draws.text (A := A.in1) hA (s1.heap.objs.size + 1) (S y) t')) (by simp) (fun i h st b hb => ?_) (fun i vals hp => ?_) (fun A i s Q E st h => ?_), ⟨Nat.zero_le _, hz, hTI, ⟨_, _, hTO⟩, ?_, ?_⟩, fun b hb => ?_, ?_⟩
      · obtain ⟨hz, hTI, ⟨a1, a2, hTO⟩, st1, st2⟩ := st
        have e' : b = s1.heap.objs.size + 4 ∨ b = s1.heap.objs.size + 2 ∨ b = s1.heap.objs.size + 3 ∨ b = s1.heap.objs.size ∨ b = s1.heap.objs.size + 1 := by simpa using hb
        rcases e' with z | z | z | z | z
        · rw [z]; exact ⟨_, hz, fun v q => nomatch q⟩
        · rw [z]; exact ⟨_, hTI, fun v q => nomatch q⟩
        · rw [z]; exact ⟨_, hTO, fun v q => nomatch q⟩
        · rw [z]; exact str_live st1
        · rw [z]; exact str_live st2
      · obtain ⟨y1, y2, ⟨c, u, hc, ey⟩, ⟨c2, u2, hc2, ey2⟩, rfl⟩ := hp
        exact ⟨.cons (sg_of hc ey) (.cons (sg_of hc2 ey2) .nil), by show 2 ≤ sizeLine; decide⟩
      · exact wpAny_pyIter_zip st.1 h
      · exact ⟨_, h1, rfl, rfl⟩
      · exact ⟨_, h2, rfl, rfl⟩
      · have hle : s1.heap.objs.size ≤ b := by
          have e' : b = s1.heap.objs.size + 4 ∨ b = s1.heap.objs.size + 2 ∨ b = s1.heap.objs.size + 3 ∨ b = s1.heap.objs.size ∨ b = s1.heap.objs.size + 1 := by simpa using hb
          rcases e' with z | z | z | z | z
          · rw [z]; exact Nat.le_add_right _ _
          · rw [z]; exact Nat.le_add_right _ _
          · rw [z]; exact Nat.le_add_right _ _
          · rw [z]; exact Nat.le_refl _
          · rw [z]; exact Nat.le_add_right _ _
        exact I1.fpOk hle (I1.hok.fresh hle)
      · have ez : (S x).cps.size = x.length := by simp [S]
        have ez2 : (S y).cps.size = y.length := by simp [S]
        rw [ez, ez2]; exact q
/-! by data -/
def enumT (x : List Nat) : List D := (List.range x.length).map fun i => .tup [.int (i : Nat), .str [x.getD i 0]]
def zipT (x y : List Nat) : List D := (List.range (min x.length y.length)).map fun i => .tup [.str [x.getD i 0], .str [y.getD i 0]]
theorem it_w {K : PySem.W.Frag} {n : Nat} {item : Nat → List V} {di : Nat → List D} (h : ∀ A H i, RpL K cm A H (item i) (di i)) : ItOk K cm (Itw n item) (fun _ _ => True) ((List.range n).map fun i => .tup (di i)) where
  stay := fun _ _ _ _ _ _ => trivial
  go := fun A H i _ h => by
    show i < n
    simpa using h
  yld := fun A H i x H' d _ hdom e hy => by
    obtain ⟨T, rfl, hT, rfl⟩ := hy
    simp only [List.getElem?_map, Option.map_eq_some_iff] at e
    obtain ⟨j, e1, rfl⟩ := e
    have hj : i < n := by
      have := (List.getElem?_eq_some_iff.mp e1).1
      simpa using this
    rw [List.getElem?_range hj] at e1
    cases e1
    exact ⟨same_new hT, new_tup hdom hT (h A H i)⟩
  stop := fun A H i _ h => by
    show n ≤ i
    simpa using h
def iEnS (g : Am) : Im := fun ρ => (g ρ).bind fun p => (pus p.2 p.1).bind fun es => match es with
  | [.str x] => some (enumT x, p.2)
  | _ => none
def iZi2 (g : Am) : Im := fun ρ => (g ρ).bind fun p => (pus p.2 p.1).bind fun es => match es with
  | [.str x, .str y] => some (zipT x y, p.2)
  | _ => none
theorem fi_enS {g : Am} {p tpos : Pos} {elts : List Expr} {kk : Nat} (hg : Gl X "enumerate") (hm : X.mg "enumerate" = none) (ha : FA X cm [e] g) (hs : starEach [e] X.env = [(false, eval e X.env)] := by rfl) : FI X cm (.Tuple elts kk tpos) (.Call (.Name "enumerate" p) [e] [] pos) (iEnS g) :=
  (pi_enT hg hm ha hs).imp fun σ H R ⟨C, A, ρ, ds, ρ', RS0, q, k⟩ => by
    unfold iEnS at q
    simp only [Option.bind_eq_some_iff] at q
    obtain ⟨⟨rs, ρ1⟩, h1, es, h2, h3⟩ := q
    refine ⟨C, A, ρ, rs, ρ1, RS0, h1, fun vs H1 A1 l1 R1 w1 => ?_⟩
    have r := pus_ok R1 w1 h2
    dsimp only at h3
    split at h3
    · cases h3
      cases r with
      | cons r1 r => cases r with
        | nil =>
          cases r1
          exact ⟨_, rfl, k _ H1 A1 _ l1 R1 (it_w fun A H i => .cons (.int _) (.one (.str _))) trivial⟩
    · cases h3
theorem fi_zi2 {g : Am} {p tpos : Pos} {elts : List Expr} {kk : Nat} (hg : Gl X "zip") (hm : X.mg "zip" = none) (ha : FA X cm [e, e2] g)
    (hs : starEach [e, e2] X.env = (false, eval e X.env) :: starEach [e2] X.env := by rfl) (hpl : (backTo pos (starEach [e2] X.env)).any (·.1) = false := by rfl) : FI X cm (.Tuple elts kk tpos) (.Call (.Name "zip" p) [e, e2] [] pos) (iZi2 g) :=
  (pi_ziT hg hm ha hs hpl).imp fun σ H R ⟨C, A, ρ, ds, ρ', RS0, q, k⟩ => by
    unfold iZi2 at q
    simp only [Option.bind_eq_some_iff] at q
    obtain ⟨⟨rs, ρ1⟩, h1, es, h2, h3⟩ := q
    refine ⟨C, A, ρ, rs, ρ1, RS0, h1, fun vs H1 A1 l1 R1 w1 => ?_⟩
    have r := pus_ok R1 w1 h2
    dsimp only at h3
    split at h3
    · cases h3
      cases r with
      | cons r1 r => cases r with
        | cons r2 r => cases r with
          | nil =>
            cases r1; cases r2
            exact ⟨_, _, rfl, k _ H1 A1 _ l1 R1 (it_w fun A H i => .cons (.str _) (.one (.str _))) trivial⟩
    · cases h3
end
end G

set_option maxHeartbeats 4000000
/-! Ly31: list(text), sorted(text), sum of a tuple. -/
namespace G
open PySem PySem.Spec PyProof.Rows L2

def sgL (x : List Nat) : List Str := x.map sg
theorem signs_of {x : Str} {vs : List Value} (h : ItemsOf (SignAt x) vs.toArray x.cps.size) : StrsAre vs (sgL x.cps.toList) := by
  have all : ∀ (vs : List Value) (cs : List Nat), vs.length = cs.length → (∀ (j : Nat) (v : Value), vs[j]? = some v → ∃ c u, cs[j]? = some c ∧ v = .str ⟨#[c]⟩ u) → StrsAre vs (sgL cs) := by
    intro vs
    induction vs with
    | nil =>
      intro cs hl _
      cases cs with
      | nil => exact .nil
      | cons => cases hl
    | cons v vs ih =>
      intro cs hl hv
      cases cs with
      | nil => cases hl
      | cons c cs =>
        obtain ⟨c', u, e1, e2⟩ := hv 0 v rfl
        cases e1
        subst e2
        exact .cons _ u (ih cs (by simpa using hl) fun j w e => by simpa using hv (j + 1) w (by simpa using e))
  refine all vs x.cps.toList (by have := h.1; simpa using this) fun j v e => ?_
  obtain ⟨c, u, e1, e2⟩ := h.2 j v (by simpa using e)
  exact ⟨c, u, by rw [Array.getElem?_toList]; exact e1, e2⟩
section
variable {P : Program} {w : World} {A : Around} {E : Value → Shared → Prop} {s : Shared}
theorem sorted_txt {x : Str} {t : Tok} {Q : Value → Shared → Prop} (hh : A.handled = none) (h64 : x.cps.size < 64)
    (hQ : ∀ (s1 s' : Shared) (out : List Value) (c : Nat) (ys : List Str), (∀ b o, s.heap.get? b = some o → s1.heap.get? b = some o) → s1.gens = s.gens → s1.os = s.os → (∀ b o, s1.heap.get? b = some o → s'.heap.get? b = some o) → s'.gens = s1.gens → s'.os = s1.os →
      s'.heap.get? s1.heap.objs.size = some (seqObj "list" out.toArray c) → StrsAre out ys → ys.Perm (sgL x.cps.toList) → sortedS ys = true → Q (.ref s1.heap.objs.size) s') :
    wpAny (model P w) A (call (.builtin "sorted") [.str x t]) Q E s := by
  refine Calls.call_function_entry kind_sorted plain_sorted entry_sorted (args_sorted1 _) ?_
  unfold Builtin.«sorted»
  refine wpAny_bind (m := checkCount "sorted" 1 1 _) (wpAny_pure ?_)
  refine wpAny_bind (wpAny_collect_str (A := A.in1) hh x t (fun s1 acc k1 g1 d1 o1 hacc => ?_) (by rw [sizeLine_eq]; omega))
  generalize hvs : acc.toList = vs
  have hS : StrsAre vs (sgL x.cps.toList) := signs_of (by rw [← hvs]; simpa using hacc)
  have len : vs.length < 64 := by
    have e := hacc.1
    rw [← hvs, Array.length_toList, e]; exact h64
  refine wpAny_bind (wpAny_newList ?_ (by rw [sizeLine_eq]; omega))
  have hoL : (s1.heap.push (seqObj "list" vs.toArray 0)).get? s1.heap.objs.size = some (seqObj "list" vs.toArray 0) := Heap.get?_push_size _ rfl
  refine wpAny_bind (wpAny_holding (wpAny_call_entry slot_list_sort ⟨_, hoL, rfl⟩ entry_list_sort (list_sort_treeK strKind_oneLt hoL hS.keysOf (fun v1 v2 rest e => keyKind_strs (by rw [← e]; exact hS)) len fun st' hp hs => ⟨_, rfl, ?_⟩) (args_list_sort _)))
  obtain ⟨ys, q1, q2, q3⟩ := sorted_out_str hS hp hs
  obtain ⟨c, hc⟩ := sortedHeap_at (vs := vs) (out := (arrOf st').map (·.2)) hoL
  refine wpAny_pure ⟨_, rfl, hQ s1 _ ((arrOf st').map (·.2)).toList c ys k1 g1 o1 (fun b u e => ?_) rfl rfl (by rw [Array.toArray_toList]; exact hc) q1 q2 q3⟩
  have hlt := Heap.lt_size e
  show (sortedHeap (s1.heap.push (seqObj "list" vs.toArray 0)) s1.heap.objs.size vs ((arrOf st').map (·.2))).get? b = some u
  rw [sortedHeap_old (Nat.ne_of_lt hlt) (by rw [size_push']; exact Nat.lt_succ_of_lt hlt)]
  exact Heap.get?_push_of_some _ e
end
section
variable {X : Cx} {K : PySem.W.Frag} {cm : Cm}
theorem S_size (x : List Nat) : (S x).cps.size = x.length := by simp [S]
theorem cr_sortedT (hc : X.calm = true) : CallR X (.builtin "sorted") (fun xs H Q => ∃ x : List Nat, xs = [.str (S x)] ∧ x.length < 64 ∧ ∀ (ys : List Str) p, ys.Perm (sgL x) → sortedS ys = true → H p = none → Q (.ref p) (upd H p (.lst (ys.map V.str)))) := by
  intro pins s σ H xs us Q I r h
  obtain ⟨x, rfl, hx, q⟩ := h
  obtain ⟨u, rfl, t, rfl⟩ := vals1 r
  refine sorted_txt (I.ok.hd hc) (by rw [S_size]; exact hx) fun s1 s' out c ys k1 g1 o1 k2 g2 o2 hp hS pm so => ?_
  have pm' : ys.Perm (sgL x) := by rw [S_list] at pm; exact pm
  have I1 : Inv X pins σ H { s1 with os := s.os, gens := s.gens } := by
    refine I.call (ch := []) (Un.kept k1) (I.hok.kept k1) I.bare fun _ m => nomatch m
  have e1 : ({ s1 with os := s.os, gens := s.gens } : Shared) = s1 := by
    cases s1; cases s; cases g1; cases o1; rfl
  rw [e1] at I1
  have hn : H s1.heap.objs.size = none := I1.hok.fresh (Nat.le_refl _)
  have hlen : (ys.map V.str).length ≤ sizeLine := by
    rw [List.length_map, pm'.length_eq, sizeLine_eq]
    unfold sgL
    rw [List.length_map]; omega
  have J : Inv X pins σ (upd H s1.heap.objs.size (.lst (ys.map V.str))) { s' with os := s1.os, gens := s1.gens } := by
    refine I1.call (ch := []) (Un.laid k2 (Nat.le_refl _) hn) (I1.hok.laid k2 (Nat.le_refl _) ⟨hlen, out, c, vals_of_strs hS, hp⟩) I1.bare fun _ m => nomatch m
  have e2 : ({ s' with os := s1.os, gens := s1.gens } : Shared) = s' := by
    cases s'; cases s1; cases g2; cases o2; rfl
  rw [e2] at J
  exact ⟨.ref _, _, J, rfl, q ys _ pm' so hn⟩
def cSortX : List D → Option (List D)
  | [.str x] => if x.length < 64 then some ((tsort (x.map fun c => [c])).map .str) else none
  | ds => cSortT ds
theorem rc_sortX : RCN K cm (fun xs H Q => rSortedS K xs H Q ∨ ∃ x : List Nat, xs = [.str (S x)] ∧ x.length < 64 ∧ ∀ (ys : List Str) p, ys.Perm (sgL x) → sortedS ys = true → H p = none → Q (.ref p) (upd H p (.lst (ys.map V.str)))) cSortX := by
  intro A H vs ds es Q hd hl hr e k
  unfold cSortX at e
  split at e
  · rename_i x
    split at e
    · rename_i hz
      cases e
      obtain ⟨v, rfl, r⟩ := hr.one
      cases r.str
      refine .inr ⟨x, rfl, hz, fun ys p pm so hp => ?_⟩
      have e0 : sgL x = (x.map fun c => [c]).map S := by
        rw [List.map_map]; rfl
      rw [sorted_texts (x.map fun c => [c]) ys (by rw [← e0]; exact pm) so]
      exact k p _ hp (rpl_str _)
    · cases e
  · exact .inl (rc_sortT A H vs ds es Q hd hl hr e k)
theorem call_listT (hc : X.calm = true) : CallR X (.type "list") (fun xs H Q => ∃ x : List Nat, xs = [.str (S x)] ∧ x.length ≤ big ∧ ∀ p, H p = none → Q (.ref p) (upd H p (.lst (x.map fun c => V.str (S [c]))))) := by
  intro pins s σ H xs us Q I r h
  obtain ⟨x, rfl, hx, q⟩ := h
  obtain ⟨u, rfl, t, rfl⟩ := vals1 r
  have hz : x.length ≤ sizeLine := big_le hx
  refine call_list_str (I.ok.hd hc) (S x) t (fun h' tk acc c' hk ho hacc => ?_) (by rw [S_size]; exact hz)
  have hS : StrsAre acc.toList (sgL x) := by
    have q := signs_of (vs := acc.toList) (by simpa using hacc)
    rw [S_list] at q; exact q
  have e0 : (x.map fun c => V.str (S [c])) = (sgL x).map V.str := by
    unfold sgL
    rw [List.map_map]; rfl
  refine ⟨.ref s.heap.objs.size, _, I.laid (t' := tk) hk (Nat.le_refl _) (show ObjOk X.prog X.w _ h' _ (.lst (x.map fun c => V.str (S [c]))) from ⟨by rw [List.length_map]; exact hz, acc.toList, c', by rw [e0]; exact vals_of_strs hS, by simpa using ho⟩), rfl, q _ (I.hok.fresh (Nat.le_refl _))⟩
def cListX : List D → Option (List D)
  | [.str x] => if x.length ≤ big then some (x.map fun c => .str [c]) else none
  | ds => cList ds
theorem rc_listX : RCN K cm (fun xs H Q => (∃ p ys, xs = [.ref p] ∧ (SqL K H p ys ∨ SqT K H p ys) ∧ ∀ l, H l = none → Q (.ref l) (upd H l (.lst ys))) ∨ ∃ x : List Nat, xs = [.str (S x)] ∧ x.length ≤ big ∧ ∀ p, H p = none → Q (.ref p) (upd H p (.lst (x.map fun c => V.str (S [c]))))) cListX := by
  intro A H vs ds es Q hd hl hr e k
  unfold cListX at e
  split at e
  · rename_i x
    split at e
    · rename_i hz
      cases e
      obtain ⟨v, rfl, r⟩ := hr.one
      cases r.str
      refine .inr ⟨x, rfl, hz, fun p hp => k p _ hp ?_⟩
      have e0 : (x.map fun c => V.str (S [c])) = ((x.map fun c => [c]).map S).map V.str := by simp [List.map_map]
      have e1 : (x.map fun c => D.str [c]) = (x.map fun c => [c]).map D.str := by simp [List.map_map]
      rw [e0, e1]
      exact rpl_str _
    · cases e
  · exact .inl (rc_list A H vs ds es Q hd hl hr e k)
/-! ### sum of a tuple of ints -/
theorem preS (ns : List Int) : ∀ j, preSum (fun i => ns.getD i 0) j = (ns.take j).sum
  | 0 => by simp [preSum]
  | j + 1 => by
    rw [preSum, preS ns j, List.take_add_one]
    cases h : ns[j]? with
    | none => simp [List.getD_eq_getElem?_getD, h]
    | some v => simp [List.getD_eq_getElem?_getD, h, List.sum_append]
theorem cr_sumT (hc : X.calm = true) : CallR X (.builtin "sum") (fun xs H Q => ∃ (a : Addr) (ns : List Int), xs = [V.ref a] ∧ SqT X.K H a (ns.map V.int) ∧ Q (.int ns.sum) H) := by
  intro pins s σ H vs us Q I r h
  obtain ⟨a, ns, rfl, hs, q⟩ := h
  obtain ⟨its, rv, hl, hz⟩ := I.tuple hs
  obtain ⟨u, rfl, rx⟩ := vals1 r
  cases rx
  have hT : s.heap.IsTuple a its.toArray := hl
  obtain ⟨oa, ea, _⟩ := id hl
  have hlt : a < s.heap.objs.size := Heap.lt_size ea
  refine call_sum_walkG (wpAny_pyIter_tuple (show s.heap.IsTuple a its.toArray from hl) ⟨s.heap.objs.size, [s.heap.objs.size, a], [s.heap.objs.size], its.toArray.size, _, _, fun i => ns.getD i 0, rfl,
    Walks.tuple (A := X.A.in1) (I.ok.hd hc) s.heap.objs.size a (Nat.ne_of_lt hlt) its.toArray, ⟨⟨_, Heap.get?_push_size _ rfl, rfl, rfl⟩, hT.at fun o e => Heap.get?_push_of_some _ e⟩, fun b hb => ?_, fun i v e => ?_, fun h' tk t' hk => ?_⟩)
  · show b < (s.heap.push _).objs.size
    rw [Heap.size_push]
    have e' : b = s.heap.objs.size ∨ b = a := by simpa using hb
    rcases e' with z | z <;> rw [z]
    · exact Nat.lt_succ_self _
    · exact Nat.lt_succ_of_lt hlt
  · have e' : its[i]? = some v := by simpa using e
    have hlen : i < (ns.map V.int).length := by
      rw [rv.length]; exact (List.getElem?_eq_some_iff.mp e').1
    obtain ⟨u, e1, e2⟩ := rv.get (i := i) (x := .int (ns.getD i 0)) (by
      rw [List.getElem?_map]
      rw [List.length_map] at hlen
      simp [List.getD_eq_getElem?_getD, List.getElem?_eq_getElem hlen])
    rw [e'] at e1; cases e1
    exact e2
  · have hn : its.toArray.size = ns.length := by
      have := rv.length
      rw [List.length_map] at this
      simp [this]
    rw [hn, preS, List.take_of_length_le (Nat.le_refl _)]
    refine ⟨.int _, H, I.kept fun b o e => hk b o (fun m => ?_) (Heap.get?_push_of_some _ e), ⟨_, rfl⟩, q⟩
    have z : b = s.heap.objs.size := by simpa using m
    exact absurd (Heap.lt_size e) (by rw [z]; exact Nat.lt_irrefl _)
def cSumX : List D → Option D
  | [.tup ds] => (intL ds).map fun ns => .int ns.sum
  | ds => cSum ds
theorem rc_sumX : RC K cm (fun xs H Q => rSum K xs H Q ∨ ∃ (a : Addr) (ns : List Int), xs = [V.ref a] ∧ SqT K H a (ns.map V.int) ∧ Q (.int ns.sum) H) cSumX := by
  intro A H vs ds dz Q hd hl hr e k
  unfold cSumX at e
  split at e
  · rw [Option.map_eq_some_iff] at e
    obtain ⟨ns, e1, rfl⟩ := e
    obtain ⟨v, rfl, r⟩ := hr.one
    obtain ⟨a, xs, rfl, hs, rl⟩ := r.tup
    have := rl.intL e1
    subst this
    exact .inr ⟨a, ns, rfl, hs, k _ H (.refl H) (.int _)⟩
  · exact .inl (rc_sum A H vs ds dz Q hd hl hr e k)
end
end G

/-! Ly32: two ways to walk; rules put together. -/
namespace G
open PySem PySem.Spec L2
def iOr (f g : Im) : Im := fun ρ => (f ρ).or (g ρ)
section
variable {X : Cx} {cm : Cm} {tg iter : Expr}
theorem fi_or {f g : Im} (hf : FI X cm tg iter f) (hg : FI X cm tg iter g) : FI X cm tg iter (iOr f g) :=
  (hf.or hg).imp fun σ H R ⟨C, A, ρ, ds, ρ', RS0, q, k⟩ => by
    unfold iOr at q
    cases e : f ρ with
    | none =>
      rw [e] at q
      exact .inr ⟨C, A, ρ, ds, ρ', RS0, q, k⟩
    | some r =>
      rw [e] at q
      cases q
      exact .inl ⟨C, A, ρ, _, _, RS0, e, k⟩
theorem cr_sortedX (hc : X.calm = true) : CallR X (.builtin "sorted") (fun xs H Q => rSortedS X.K xs H Q ∨ ∃ x : List Nat, xs = [.str (S x)] ∧ x.length < 64 ∧ ∀ (ys : List Str) p, ys.Perm (sgL x) → PyProof.Rows.sortedS ys = true → H p = none → Q (.ref p) (upd H p (.lst (ys.map V.str)))) := cr_sortedS.or (cr_sortedT hc)
theorem call_listX (hc : X.calm = true) : CallR X (.type "list") (fun xs H Q => (∃ p ys, xs = [.ref p] ∧ (SqL X.K H p ys ∨ SqT X.K H p ys) ∧ ∀ l, H l = none → Q (.ref l) (upd H l (.lst ys))) ∨ ∃ x : List Nat, xs = [.str (S x)] ∧ x.length ≤ big ∧ ∀ p, H p = none → Q (.ref p) (upd H p (.lst (x.map fun c => V.str (S [c]))))) := call_list_of.or (call_listT hc)
theorem cr_sumX (hc : X.calm = true) : CallR X (.builtin "sum") (fun xs H Q => rSum X.K xs H Q ∨ ∃ (a : Addr) (ns : List Int), xs = [V.ref a] ∧ SqT X.K H a (ns.map V.int) ∧ Q (.int ns.sum) H) := (cr_sum hc).or (cr_sumT hc)
end
end G

/-! Ly33: text.replace(sign, '') as a mirror; its law. -/
namespace G
open PySem PySem.Spec L2 PySem.StrLaws
def cRepl (a c z : D) : Option D := match a, c, z with
  | .str a, .str [c], .str [] => if a.length ≤ 1000 then some (.str (a.filter fun d => decide (d ≠ c))) else none
  | _, _, _ => none
def eRepl (f g h : Em) : Em := fun ρ => (f ρ).bind fun p => (g p.2).bind fun q => (h q.2).bind fun r => (rd r.2 p.1).bind fun a => (rd r.2 q.1).bind fun c => (rd r.2 r.1).bind fun z => (cRepl a c z).map fun y => (.val y, r.2)
theorem join_nil_sg (c : Nat) : ∀ ps : List Str, (∀ p ∈ ps, c ∉ p.cps.toList) → (Str.join ⟨#[]⟩ ps).cps.toList = (Str.join ⟨#[c]⟩ ps).cps.toList.filter fun d => decide (d ≠ c)
  | [], _ => rfl
  | [p], h => by
    show p.cps.toList = p.cps.toList.filter _
    rw [List.filter_eq_self.mpr]
    intro a m
    exact decide_eq_true fun (e : a = c) => h p (by simp) (by rw [← e]; exact m)
  | p :: q :: r, h => by
    have ih := join_nil_sg c (q :: r) fun a m => h a (List.mem_cons_of_mem _ m)
    show (p ++ ⟨#[]⟩ ++ Str.join ⟨#[]⟩ (q :: r)).cps.toList = (p ++ ⟨#[c]⟩ ++ Str.join ⟨#[c]⟩ (q :: r)).cps.toList.filter _
    simp only [Str.cps_append, Array.toList_append, List.filter_append]
    rw [ih]
    have e : p.cps.toList.filter (fun d => decide (d ≠ c)) = p.cps.toList := List.filter_eq_self.mpr fun a m => decide_eq_true fun (e : a = c) => h p (by simp) (by rw [← e]; exact m)
    rw [e]
    simp
theorem repl_nil (a : List Nat) (c : Nat) : Txt.replace (S a) (S [c]) (S []) = S (a.filter fun d => decide (d ≠ c)) := by
  have h := replace_one (S a) ⟨#[]⟩ c
  have e : (Txt.replace (S a) (S [c]) (S [])).cps.toList = a.filter fun d => decide (d ≠ c) := by
    show (Txt.replace (S a) ⟨#[c]⟩ ⟨#[]⟩).cps.toList = _
    rw [h, join_nil_sg c _ (split_free (S a) c), join_split, S_list]
  rw [S_of (Txt.replace (S a) (S [c]) (S [])), e]
/-- a mirror told only at a sewing, a whole number and a third thing -/
def gdS (f : Rho → Option (T × Rho)) : Rho → Option (T × Rho) := fun ss => match ss with
  | [.v (.p (.tup [.str w, .str t])), .v (.p (.int e)), .v (.p d)] => if w.length ≤ 1000 then f [.v (.p (.tup [.str w, .str t])), .v (.p (.int e)), .v (.p d)] else none
  | _ => none
end G

/-! Ly34: a run has one end; so what two derivations tell of it stands together. -/
namespace G
open PySem

theorem runs_one {M : Model} {Γ : Ctx} {p : Pos} {t : Sem Fin} {fs : List Frame} {s s' : Shared} {e : End} (h : Runs M Γ p t fs s e s') : ∀ {e2 : End} {s2 : Shared}, Runs M Γ p t fs s e2 s2 → e = e2 ∧ s' = s2 := by
  induction h with
  | done => intro e2 s2 h2; cases h2; exact ⟨rfl, rfl⟩
  | raise => intro e2 s2 h2; cases h2; exact ⟨rfl, rfl⟩
  | again _ _ ih => intro e2 s2 h2; cases h2; exact ih ‹_›
  | rule _ ih => intro e2 s2 h2; cases h2; exact ih ‹_›
  | «at» _ ih => intro e2 s2 h2; cases h2; exact ih ‹_›
  | load g _ ih =>
    intro e2 s2 h2
    cases h2 with
    | load g2 r2 => rw [g] at g2; cases g2; exact ih r2
  | update _ _ ih => intro e2 s2 h2; cases h2; exact ih ‹_›
  | loadIfAlive _ ih => intro e2 s2 h2; cases h2; exact ih ‹_›
  | point _ ih => intro e2 s2 h2; cases h2; exact ih ‹_›
  | alloc _ ih => intro e2 s2 h2; cases h2; exact ih ‹_›
  | fresh _ ih => intro e2 s2 h2; cases h2; exact ih ‹_›
  | ask _ ih => intro e2 s2 h2; cases h2; exact ih ‹_›
  | choose _ _ ih => intro e2 s2 h2; cases h2; exact ih ‹_›
  | os _ ih => intro e2 s2 h2; cases h2; exact ih ‹_›
  | handled _ ih => intro e2 s2 h2; cases h2; exact ih ‹_›
  | genState g _ ih =>
    intro e2 s2 h2
    cases h2 with
    | genState g2 r2 => rw [g] at g2; cases g2; exact ih r2
  | stack _ ih => intro e2 s2 h2; cases h2; exact ih ‹_›
  | thread _ ih => intro e2 s2 h2; cases h2; exact ih ‹_›
  | newGen _ ih => intro e2 s2 h2; cases h2; exact ih ‹_›
  | call _ _ ih1 ih2 =>
    intro e2 s2 h2
    cases h2 with
    | call a b =>
      obtain ⟨q1, q2⟩ := ih1 a
      cases q1; cases q2
      exact ih2 b
    | callSusp a => obtain ⟨q1, q2⟩ := ih1 a; cases q1
  | callSusp _ ih1 =>
    intro e2 s2 h2
    cases h2 with
    | call a b => obtain ⟨q1, q2⟩ := ih1 a; cases q1
    | callSusp a => obtain ⟨q1, q2⟩ := ih1 a; cases q1; cases q2; exact ⟨rfl, rfl⟩
  | yield => intro e2 s2 h2; cases h2; exact ⟨rfl, rfl⟩
  | resumeFresh g _ _ _ ih1 ih2 =>
    intro e2 s2 h2
    cases h2 with
    | resumeFresh g2 a _ b => rw [g] at g2; cases g2; obtain ⟨q1, q2⟩ := ih1 a; cases q1; cases q2; exact ih2 b
    | resumeSuspended g2 => rw [g] at g2; cases g2
    | resumeJustStarted g2 n => exact absurd rfl n
    | resumeRunning g2 => rw [g] at g2; cases g2
    | resumeFinished g2 => rw [g] at g2; cases g2
  | resumeSuspended g _ _ _ ih1 ih2 =>
    intro e2 s2 h2
    cases h2 with
    | resumeFresh g2 => rw [g] at g2; cases g2
    | resumeSuspended g2 a _ b => rw [g] at g2; cases g2; obtain ⟨q1, q2⟩ := ih1 a; cases q1; cases q2; exact ih2 b
    | resumeJustStarted g2 => rw [g] at g2; cases g2
    | resumeThrowFresh g2 => rw [g] at g2; cases g2
    | resumeRunning g2 => rw [g] at g2; cases g2
    | resumeFinished g2 => rw [g] at g2; cases g2
  | resumeJustStarted g n _ ih =>
    intro e2 s2 h2
    cases h2 with
    | resumeFresh g2 => exact absurd rfl n
    | resumeSuspended g2 => rw [g] at g2; cases g2
    | resumeJustStarted g2 _ b => exact ih b
    | resumeRunning g2 => rw [g] at g2; cases g2
    | resumeFinished g2 => rw [g] at g2; cases g2
  | resumeThrowFresh g _ ih =>
    intro e2 s2 h2
    cases h2 with
    | resumeSuspended g2 => rw [g] at g2; cases g2
    | resumeThrowFresh g2 b => exact ih b
    | resumeRunning g2 => rw [g] at g2; cases g2
    | resumeFinished g2 => rw [g] at g2; cases g2
  | resumeRunning g _ ih =>
    intro e2 s2 h2
    cases h2 with
    | resumeFresh g2 => rw [g] at g2; cases g2
    | resumeSuspended g2 => rw [g] at g2; cases g2
    | resumeJustStarted g2 => rw [g] at g2; cases g2
    | resumeThrowFresh g2 => rw [g] at g2; cases g2
    | resumeRunning g2 b => exact ih b
    | resumeFinished g2 => rw [g] at g2; cases g2
  | resumeFinished g _ ih =>
    intro e2 s2 h2
    cases h2 with
    | resumeFresh g2 => rw [g] at g2; cases g2
    | resumeSuspended g2 => rw [g] at g2; cases g2
    | resumeJustStarted g2 => rw [g] at g2; cases g2
    | resumeThrowFresh g2 => rw [g] at g2; cases g2
    | resumeRunning g2 => rw [g] at g2; cases g2
    | resumeFinished g2 b => exact ih b
  | segRet _ _ ih1 ih2 =>
    intro e2 s2 h2
    cases h2 with
    | segRet a b => obtain ⟨q1, q2⟩ := ih1 a; cases q1; cases q2; exact ih2 b
    | segSuspOut _ a => obtain ⟨q1, q2⟩ := ih1 a; cases q1
    | segSuspGen _ a => obtain ⟨q1, q2⟩ := ih1 a; cases q1
  | segGen _ _ ih1 ih2 =>
    intro e2 s2 h2
    cases h2 with
    | segGen a b => obtain ⟨q1, q2⟩ := ih1 a; cases q1; cases q2; exact ih2 b
    | segSuspOut _ a => obtain ⟨q1, q2⟩ := ih1 a; cases q1
    | segSuspGen _ a => obtain ⟨q1, q2⟩ := ih1 a; cases q1
  | segSuspOut n _ ih1 =>
    intro e2 s2 h2
    cases h2 with
    | segRet a b => obtain ⟨q1, q2⟩ := ih1 a; cases q1
    | segGen a b => obtain ⟨q1, q2⟩ := ih1 a; cases q1
    | segSuspOut _ a => obtain ⟨q1, q2⟩ := ih1 a; cases q1; cases q2; exact ⟨rfl, rfl⟩
    | segSuspGen n2 a => rw [n] at n2; cases n2
  | segSuspGen n _ _ _ ih1 ih2 =>
    intro e2 s2 h2
    cases h2 with
    | segRet a b => obtain ⟨q1, q2⟩ := ih1 a; cases q1
    | segGen a b => obtain ⟨q1, q2⟩ := ih1 a; cases q1
    | segSuspOut n2 a => rw [n] at n2; cases n2
    | segSuspGen n2 a _ b => rw [n] at n2; cases n2; obtain ⟨q1, q2⟩ := ih1 a; cases q1; cases q2; exact ih2 b
theorem wp_both {α : Type} (M : Model) (Γ : Ctx) (t : Sem α) : ∀ (Q Q' : α → Pos → Shared → Prop) (E E' : Value → Pos → Shared → Prop) (p : Pos) (s : Shared), Sem.wp M Γ t Q E p s → Sem.wp M Γ t Q' E' p s →
    Sem.wp M Γ t (fun a p' s' => Q a p' s' ∧ Q' a p' s') (fun e p' s' => E e p' s' ∧ E' e p' s') p s := by
  induction t with
  | pure a => intro Q Q' E E' p s h h'; exact ⟨h, h'⟩
  | raise e => intro Q Q' E E' p s h h'; exact ⟨h, h'⟩
  | unsupported _ => intro Q Q' E E' p s h _; exact h
  | finish _ => intro Q Q' E E' p s h _; exact h
  | rule _ k ih => intro Q Q' E E' p s h h'; exact ih () Q Q' E E' p s h h'
  | «at» p' k ih => intro Q Q' E E' p s h h'; exact ih () Q Q' E E' p' s h h'
  | load a _ k ih =>
    intro Q Q' E E' p s h h'
    obtain ⟨o, ho, h⟩ := h
    obtain ⟨o', ho', h'⟩ := h'
    rw [ho] at ho'; cases ho'
    exact ⟨o, ho, ih o Q Q' E E' p s h h'⟩
  | update a _ f k ih => intro Q Q' E E' p s h h'; exact ⟨h.1, ih () Q Q' E E' p _ h.2 h'.2⟩
  | loadIfAlive a k ih => intro Q Q' E E' p s h h'; exact ih _ Q Q' E E' p s h h'
  | point _ k ih => intro Q Q' E E' p s h h'; exact ih () Q Q' E E' p s h h'
  | register _ _ => intro Q Q' E E' p s h _; exact h
  | alloc o k ih => intro Q Q' E E' p s h h'; exact ih _ Q Q' E E' p _ h h'
  | fresh k ih => intro Q Q' E E' p s h h'; exact ih _ Q Q' E E' p _ h h'
  | ask k ih => intro Q Q' E E' p s h h'; exact ih _ Q Q' E E' p s h h'
  | choose src m k ih => intro Q Q' E E' p s h h'; exact ⟨h.1, ih _ Q Q' E E' p _ h.2 h'.2⟩
  | os q _ k ih => intro Q Q' E E' p s h h'; exact ih _ Q Q' E E' p _ h h'
  | call c hd _ _ k ih =>
    intro Q Q' E E' p s h h'
    obtain ⟨r, s', hr, h⟩ := h
    obtain ⟨r', s'', hr', h'⟩ := h'
    obtain ⟨q1, q2⟩ := runs_one hr hr'
    cases q1; cases q2
    exact ⟨r, s', hr, ih r Q Q' E E' p s' h h'⟩
  | handled own k ih => intro Q Q' E E' p s h h'; exact ih _ Q Q' E E' p s h h'
  | genState g k ih =>
    intro Q Q' E E' p s h h'
    obtain ⟨st, hs, h⟩ := h
    obtain ⟨st', hs', h'⟩ := h'
    rw [hs] at hs'; cases hs'
    exact ⟨st, hs, ih _ Q Q' E E' p s h h'⟩
  | newGen c k ih => intro Q Q' E E' p s h h'; exact ih _ Q Q' E E' p _ h h'
  | resume g r _ k ih =>
    intro Q Q' E E' p s h h'
    obtain ⟨res, s', hw, h⟩ := h
    obtain ⟨res', s'', hw', h'⟩ := h'
    have q : res = res' ∧ s' = s'' := by
      revert hw hw'
      unfold Wakes
      split
      · exact fun z => z.elim
      · split
        · rintro ⟨e1, s1, a, _, rfl, rfl⟩ ⟨e2, s2, b, _, rfl, rfl⟩
          obtain ⟨z1, z2⟩ := runs_one a b
          cases z1; cases z2; exact ⟨rfl, rfl⟩
        · rintro ⟨rfl, rfl⟩ ⟨rfl, rfl⟩; exact ⟨rfl, rfl⟩
        · rintro ⟨rfl, rfl⟩ ⟨rfl, rfl⟩; exact ⟨rfl, rfl⟩
      · rintro ⟨e1, s1, a, _, rfl, rfl⟩ ⟨e2, s2, b, _, rfl, rfl⟩
        obtain ⟨z1, z2⟩ := runs_one a b
        cases z1; cases z2; exact ⟨rfl, rfl⟩
      · rintro ⟨rfl, rfl⟩ ⟨rfl, rfl⟩; exact ⟨rfl, rfl⟩
      · rintro ⟨rfl, rfl⟩ ⟨rfl, rfl⟩; exact ⟨rfl, rfl⟩
    obtain ⟨rfl, rfl⟩ := q
    exact ⟨res, s', hw, ih res Q Q' E E' p s' h h'⟩
  | yield _ _ _ _ => intro Q Q' E E' p s h _; exact h
  | stack k ih => intro Q Q' E E' p s h h'; exact ih _ Q Q' E E' p s h h'
  | fork _ _ => intro Q Q' E E' p s h _; exact h
  | thread k ih => intro Q Q' E E' p s h h'; exact ih _ Q Q' E E' p s h h'
  | await _ _ _ _ _ => intro Q Q' E E' p s h _; exact h
theorem wpAny_both {α : Type} {M : Model} {A : Around} {s : Shared} {t : Sem α} {Q Q' : α → Shared → Prop} {E : Value → Shared → Prop} (h : wpAny M A t Q E s) (h' : wpAny M A t Q' E s) : wpAny M A t (fun a s' => Q a s' ∧ Q' a s') E s := by
  have w : wpAny M A t (fun a s' => Q a s' ∧ Q' a s') (fun e s' => E e s' ∧ E e s') s := fun Γ p hΓ => wp_both M Γ t _ _ _ _ p s (h Γ p hΓ) (h' Γ p hΓ)
  exact wpAny_mono w (fun _ _ q => q) fun _ _ q => q.1
end G

/-! Ly35: statements told at states of which more is known (tokens of texts); defs that want something of their arguments. -/
namespace G
open PySem PySem.Spec PyProof.Rows L2

def Kp (s s' : Shared) : Prop := ∀ b o, s.heap.get? b = some o → s'.heap.get? b = some o
theorem ns_of {h h' : Heap} {a : Addr} {m : Str → Option Value} (hn : h.Ns a m) (k : ∀ o, h.get? a = some o → ∃ sl, h'.get? a = some { o with slots := sl }) : h'.Ns a m := by
  obtain ⟨o, es, ep, e, d, r⟩ := hn
  obtain ⟨sl, e2⟩ := k o e
  exact ⟨_, es, ep, e2, d, r⟩
theorem ns_kp {s s' : Shared} {a : Addr} {m : Str → Option Value} (hn : s.heap.Ns a m) (k : Kp s s') : s'.heap.Ns a m := ns_of hn fun o e => ⟨o.slots, k a o e⟩

structure PSx1 (P : Shared → Prop) (X : Cx) (st : Stmt) (t : TS) : Prop where
  run : ∀ (pins : List (Addr × Obj)) (s : Shared) (σ : L2.St) (H : Hp) (D : Ends), P s → Inv X pins σ H s → t D σ H → wpAny (model X.prog X.w) X.A (exec st X.env) (SP X pins D) X.xe s
structure PSx (P : Shared → Prop) (X : Cx) (sts : List Stmt) (t : TS) : Prop where
  run : ∀ (pins : List (Addr × Obj)) (s : Shared) (σ : L2.St) (H : Hp) (D : Ends), P s → Inv X pins σ H s → t D σ H → wpAny (model X.prog X.w) X.A (execs sts X.env) (SP X pins D) X.xe s
structure PEx (P : Shared → Prop) (X : Cx) (e : Expr) (t : TE) : Prop where
  run : ∀ (pins : List (Addr × Obj)) (s : Shared) (σ : L2.St) (H : Hp) (Q : VK), P s → Inv X pins σ H s → t σ H Q → wpAny (model X.prog X.w) X.A (eval e X.env) (EP X pins σ Q) X.xe s
section
variable {P P' : Shared → Prop} {X : Cx} {st : Stmt} {rest sts : List Stmt} {t t' u : TS} {e c : Expr} {te : TE} {tc : TT} {pos pos' : Pos}
theorem PSx1.of (h : PS X st t) : PSx1 P X st t := ⟨fun pins s σ H D _ I q => h.run pins s σ H D I q⟩
theorem PSx.of (h : PSs X sts t) : PSx P X sts t := ⟨fun pins s σ H D _ I q => h.run pins s σ H D I q⟩
theorem PSx.to (h : PSx P X sts t) (hp : ∀ s, P s) : PSs X sts t := ⟨fun pins s σ H D I q => h.run pins s σ H D (hp s) I q⟩
theorem PSx1.imp (h : PSx1 P X st t) (i : ∀ D σ H, t' D σ H → t D σ H) : PSx1 P X st t' := ⟨fun pins s σ H D p I q => h.run pins s σ H D p I (i D σ H q)⟩
theorem PSx.imp (h : PSx P X sts t) (i : ∀ D σ H, t' D σ H → t D σ H) : PSx P X sts t' := ⟨fun pins s σ H D p I q => h.run pins s σ H D p I (i D σ H q)⟩
theorem psx_cons (h1 : PSx1 P X st t) (kp : ∀ (pins : List (Addr × Obj)) (s : Shared) (σ : L2.St) (H : Hp) (D : Ends), P s → Inv X pins σ H s → t D σ H → wpAny (model X.prog X.w) X.A (exec st X.env) (fun f s' => f = .next → P' s') X.xe s) (h2 : PSx P' X rest u) :
    PSx P X (st :: rest) (tSeq t u) := by
  refine ⟨fun pins s σ H D hp I h => ?_⟩
  refine wpAny_execs_cons (wpAny_mono (wpAny_both (h1.run pins s σ H { D with nx := u D } hp I h) (kp pins s σ H { D with nx := u D } hp I h)) (fun f s1 ⟨q, k⟩ => ?_) fun _ _ z => z)
  cases f with
  | next =>
    obtain ⟨σ', H', I', q⟩ := q
    exact h2.run pins s1 σ' H' D (k rfl) I' q
  | ret v => exact q
  | brk => exact q
  | cont => exact q
theorem psx_cons0 (h1 : PSx1 P X st t) (h2 : PSs X rest u) : PSx P X (st :: rest) (tSeq t u) :=
  psx_cons (P' := fun _ => True) h1 (fun pins s σ H D hp I h => wpAny_mono (h1.run pins s σ H D hp I h) (fun _ _ _ _ => trivial) fun _ _ z => z) (.of h2)
theorem PSx.pre (h : PSx P X sts t) (i : ∀ s, P' s → P s) : PSx P' X sts t := ⟨fun pins s σ H D hp I q => h.run pins s σ H D (i s hp) I q⟩
theorem psx_one (h : PSx1 P X st t) : PSx P X [st] t := by
  refine ⟨fun pins s σ H D hp I q => wpAny_execs_cons (wpAny_mono (h.run pins s σ H D hp I q) (fun f s1 q => ?_) fun _ _ z => z)⟩
  cases f with
  | next => exact wpAny_execs_nil q
  | ret v => exact q
  | brk => exact q
  | cont => exact q
theorem psx_if {a b : List Stmt} {u : TS} (hc : PT X c tc) (kp : ∀ (pins : List (Addr × Obj)) (s : Shared) (σ : L2.St) (H : Hp) (Q : Bool → Hp → Prop), P s → Inv X pins σ H s → tc σ H Q → wpAny (model X.prog X.w) X.A (isTrue c X.env (eval c X.env)) (fun _ s' => P' s') X.xe s)
    (ha : PSx P' X a t) (hb : PSs X b u) : PSx1 P X (.If c a b pos) (tIfS tc t u) := by
  refine ⟨fun pins s σ H D hp I h => ?_⟩
  refine wpAny_If (wpAny_mono (wpAny_both (hc.run pins s σ H _ I h) (kp pins s σ H _ hp I h)) (fun d s1 ⟨⟨H1, I1, q1⟩, k⟩ => ?_) fun _ _ z => z)
  cases d with
  | true => exact ha.run pins s1 σ H1 D k I1 q1
  | false => exact hb.run pins s1 σ H1 D I1 q1
theorem psx_set {i : Nat} {x : Str} (hN : X.N.Nodup) (hi : X.N[i]? = some x) (hx : Loc X.env.scope x) (he : PEx P X e te) (hs : swapsWith e (some (.Name x pos')) pos.line X.env = pure false := by rfl) (hf : X.fn x = true ∨ X.env.scope.names.lookup x = some .local := by first | exact .inl rfl | exact .inr rfl | assumption) :
    PSx1 P X (.Assign [.Name x pos'] e pos) (tAsg te (gName i)) := by
  refine ⟨fun pins s σ H D hp I h => ?_⟩
  refine wpAny_Assign_Name (thn (he.run pins s σ H _ hp I h) fun v s1 ⟨y, H1, I1, r1, q1⟩ => ?_) hs
  exact store_ok I1 hN hi hx r1 (fun s2 I2 => ⟨_, H1, I2, q1⟩) hf
theorem psx_ret (he : PEx P X e te) : PSx1 P X (.Return (some e) pos) (tRet te) := by
  refine ⟨fun pins s σ H D hp I h => ?_⟩
  exact wpAny_Return_some (thn (he.run pins s σ H _ hp I h) fun v s1 ⟨x, H1, I1, r1, q1⟩ => ⟨x, σ, H1, I1, r1, q1⟩)
end
/-! readings -/
section
variable {K : PySem.W.Frag} {cm : Cm} {D : Ends} {σ : L2.St} {H : Hp}
theorem rd_seq {g h : Sm} (q : tS K cm (sSeq g h) D σ H) : tSeq (tS K cm g) (tS K cm h) D σ H := by
  obtain ⟨C, A, ρ, o, R, q, k⟩ := q
  unfold sSeq at q
  rw [Option.bind_eq_some_iff] at q
  obtain ⟨o1, h1, h2⟩ := q
  refine ⟨C, A, ρ, o1, R, h1, ?_⟩
  cases o1 with
  | nx ρ1 => exact fun σ1 H1 A1 l1 R1 => ⟨C, A1, ρ1, o, R1, h2, k.later l1⟩
  | rt t ρ1 => cases h2; exact k
  | bk ρ1 => cases h2; exact k
  | ct ρ1 => cases h2; exact k
theorem rd_if {f : Bm} {g h : Sm} (q : tS K cm (sIf f g h) D σ H) : tIfS (tT K cm f) (tS K cm g) (tS K cm h) D σ H := by
  obtain ⟨C, A, ρ, o, R, q, k⟩ := q
  unfold sIf at q
  rw [Option.bind_eq_some_iff] at q
  obtain ⟨⟨x, ρ1⟩, h1, h2⟩ := q
  refine ⟨C, A, ρ, x, ρ1, R, h1, fun H1 A1 l1 R1 => ?_⟩
  cases x with
  | true => exact iteT ⟨C, A1, ρ1, o, R1, h2, k.later l1⟩
  | false => exact iteF ⟨C, A1, ρ1, o, R1, h2, k.later l1⟩
theorem rd_ret {f : Rho → Option (T × Rho)} (q : tS K cm (sRet f) D σ H) : tRet (tN K cm f) D σ H := by
  obtain ⟨C, A, ρ, o, R, q, k⟩ := q
  unfold sRet at q
  rw [Option.map_eq_some_iff] at q
  obtain ⟨⟨t, ρ1⟩, h1, h2⟩ := q
  cases h2
  exact ⟨C, A, ρ, t, ρ1, R, h1, fun v H1 A1 F l1 R1 rt hn hF => k v σ H1 A1 F l1 R1 rt hn hF⟩
end
/-! a def by its body, where more is told of the entry -/
def At (s : Shared) (L : Addr) (m : Str → Option Value) (s1 : Shared) : Prop := Kp s s1 ∧ s.toks ≤ s1.toks ∧ s1.heap.Ns L m
structure FnT (P : Program) (w : World) (K : PySem.W.Frag) (mg : Str → Option Value) (base : Heap) (Pre : Shared → List Value → Prop) (k : Nat) (f : Addr) (fd : FuncData) (ps : List Str) (sp : Sp) : Prop where
  len : ∀ vs H Q E, sp vs H Q E → vs.length = ps.length
  run : ∀ (A : Around) (outer : List Env) (s : Shared) (H : Hp) (args : Args) (us : List Value) (vs : List V) (Q : VK) (E : XK), Room k A → Env0 P w K mg base A outer s H → BindsTo s fd args (ps.zip us) → Vals vs us → Pre s us → sp vs H Q E →
    codeAny (model P w) A (.call (.ref f) args) (CR CX0 outer P w H s Q E) s
theorem fnT_of {P : Program} {w : World} {K : PySem.W.Frag} {mg : Str → Option Value} {base : Heap} {Pre : Shared → List Value → Prop} {x qual : Str} {st : Stmt} {f : Addr} {fd : FuncData} {N ps : List Str} {k : Nat} {sp : Sp} (F : Fun K x qual st f fd) (S : FnScope N ps (defScope st))
    (len : ∀ vs H Q E, sp vs H Q E → vs.length = ps.length)
    (hbody : ∀ (cdv : Value) (A : Around) (outer : List Env) (s : Shared) (H : Hp) (us : List Value) (vs : List V) (Q : VK) (E : XK), Room k (A.deeper (envOfC qual (defScope st) s.heap.objs.size f cdv)) → Env0 P w K mg base A outer s H → Vals vs us → Pre s us → sp vs H Q E →
      ∃ t, PSx (At s s.heap.objs.size (bindL (envOfC qual (defScope st) s.heap.objs.size f cdv).kindOf (ps.zip us) fun _ => none)) (cxOf CX0 P w K mg base N qual (defScope st) f cdv A outer s H E).nox (defBody st) t ∧ t { nx := fun _ H' => Q .non H', rt := Q } (start N vs) H) :
    FnT P w K mg base Pre (k + 1) f fd ps sp := by
  obtain ⟨oc, od, kV, doc, pm, an, cdv, ct, osl, rfl, lk, hcd⟩ := F.ex
  refine ⟨len, fun A outer s H args us vs Q E hr e0 hb r hpre hsp => ?_⟩
  have hl := len _ _ _ _ hsp
  have KX : K.In s.heap := e0.mod.kin.keeps fun b o e => (e0.bs b o e).1
  have lim : s.heap.NoLimit := e0.mod.nolimit.keeps fun b o e => (e0.bs b o e).1
  have hkind : ∀ y ∈ ps.zip us, (defScope st).names.lookup y.1 = some .local ∨ ((defScope st).names.lookup y.1 = some .cell ∧ ((cellsFrom (s.heap.objs.size + 1) (defScope st).names []).lookup y.1).isSome = true) := fun ⟨n, v⟩ hy => by
    rcases S.par n (List.of_mem_zip hy).1 with q | q
    · exact .inl q
    · exact .inr ⟨q, PySem.W.cellsFrom_some _ _ _ (.inl q)⟩
  refine codeAny_call_function hr.depth (KX _ _ lk) rfl S.co S.gen rfl (PySem.W.codeRec_of KX hcd) (hb _ _ _ _ ?_)
  refine wpAny_mono (wpAny_toks (wpAny_newFunctionEnv_cells (Q := fun env s1 => env = newEnv (defScope st) s.heap.objs.size mainGlobals (cellsFrom (s.heap.objs.size + 1) (defScope st).names []) (qual ++ ".<locals>.") (some f) cdv none builtinsNs ∧ InCallC s env.locals (bindL env.kindOf (ps.zip us) fun _ => none) env.cells (bindC env.kindOf (ps.zip us) fun _ => none) s1) S.kind hkind fun env he s1 x => ⟨he, x⟩)) (fun env s1 ⟨htk, he, x⟩ => ?_) fun _ _ z => z.2
  subst he
  refine ⟨lim.keeps x.toInCall.keep, codeAny_func ?_⟩
  obtain ⟨t, ht, hq⟩ := hbody cdv A outer s H us vs Q E (hr.deeper _) e0 r hpre hsp
  have I : Inv (cxOf CX0 P w K mg base N qual (defScope st) f cdv A outer s H E) [] (start N vs) H s1 := inv_start S hr.hd e0 hl r x
  refine wpAny_mono (ht.run [] s1 (start N vs) H _ ⟨x.toInCall.keep, htk, x.toInCall.ns⟩ (I.wish _) hq) (fun fl s' hs => ?_) fun e s' hs => False.elim hs
  have hs := hs.unwish
  have fin : ∀ {σ' : L2.St} {H' : Hp} {v : V} {u : Value}, Inv (cxOf CX0 P w K mg base N qual (defScope st) f cdv A outer s H E) [] σ' H' s' → RelV v u → Q v H' → CE outer P w H s Q u s' :=
    fun {σ' H' v u} J rv q => ⟨v, H', J.os, J.bare, J.base, J.hok, rv, q⟩
  cases fl with
  | ret u =>
    obtain ⟨v, σ', H', J, rv, q⟩ := hs
    exact fin J rv q
  | next =>
    obtain ⟨σ', H', J, q⟩ := hs
    exact fin (v := V.non) (u := Value.none) J rfl q
  | brk =>
    obtain ⟨_, _, _, q⟩ := hs
    exact False.elim q
  | cont =>
    obtain ⟨_, _, _, q⟩ := hs
    exact False.elim q
theorem FnT.ok {P : Program} {w : World} {K : PySem.W.Frag} {mg : Str → Option Value} {base : Heap} {f : Addr} {fd : FuncData} {ps : List Str} {k : Nat} {sp : Sp} (F : FnT P w K mg base (fun _ _ => True) k f fd ps sp) : FnOk P w K mg base CX0 k f fd ps sp :=
  ⟨F.len, fun A outer s H args us vs Q E hr he hb r q => F.run A outer s H args us vs Q E hr he hb r trivial q⟩
end G

/-! Ly36: names, slices at a known state; calls that keep the frame; calls of defs that want something of their arguments. -/
namespace G
open PySem PySem.Spec PyProof.Rows L2

section
variable {M : Model} {A : Around} {E : Value → Shared → Prop} {env : Env} {s : Shared} {m : Str → Option Value} {x : Str} {v : Value} {pos : Pos}
theorem ev_name {Q : Value → Shared → Prop} (hk : env.scope.kind = .function) (hl : env.kindOf x = some .local) (hn : s.heap.Ns env.locals m) (hv : m x = some v) (h : Q v s) (hd : (x == ("__debug__" : Str)) = false := by decide) :
    wpAny M A (eval (.Name x pos) env) Q E s := wpAny_Name (wpAny_loadName_local hk hl hn hv h) hd
theorem slice_post {z : Str} {t : Tok} {l u : Option (Int × Tok)} {Q : Value → Shared → Prop} (hz : z.length ≤ sizeLine) (h : ∀ w t' k, w.length ≤ z.length → s.toks ≤ k → Q (.str w t') { s with toks := k }) : (sliceMade z t l u none).post Q s := by
  have hl : (PySem.StrLaws.sliceText z (l.map (·.1)) (u.map (·.1))).length ≤ z.length := by
    rw [sliceText_cut]
    exact cutS_length z _ _
  unfold PySem.StrLaws.sliceText at hl
  show Made.post (if ((1 : Int) == 1 && (Builtin.Str.strSliceIndices (l.map (·.1)) (u.map (·.1)) 1 z.length).length == z.length) = true then Made.val (.str z t)
    else Made.str ⟨((Builtin.Str.strSliceIndices (l.map (·.1)) (u.map (·.1)) 1 z.length).filterMap (z.cps[·]?)).toArray⟩) Q s
  by_cases c : ((1 : Int) == 1 && (Builtin.Str.strSliceIndices (l.map (·.1)) (u.map (·.1)) 1 z.length).length == z.length) = true
  · rw [if_pos c]
    exact h z t s.toks (Nat.le_refl _) (Nat.le_refl _)
  · rw [if_neg c] at hl ⊢
    exact ⟨Nat.le_trans hl hz, h _ _ _ hl (Nat.le_succ _)⟩
end
section
variable {X : Cx} {pins : List (Addr × Obj)} {σ : L2.St} {H : Hp} {s : Shared}
theorem look_at (I : Inv X pins σ H s) {i : Nat} {x : Str} {v : V} {m : Str → Option Value} (hi : X.N[i]? = some x) (e : σ[i]? = some (some v)) (hl : X.env.scope.names.lookup x = some .local) (hn : s.heap.Ns X.env.locals m) : ∃ u, RelV v u ∧ m x = some u := by
  obtain ⟨m', hn', hl'⟩ := I.loc
  obtain ⟨u, r, l⟩ := hl' i x v hi e (.inl hl)
  have hm : m x = m' x := by
    obtain ⟨o, es, ep, e1, d1, _, f1⟩ := hn
    obtain ⟨o', es', ep', e2, d2, _, f2⟩ := hn'
    rw [e1] at e2; cases e2
    rw [d1] at d2; injection d2 with z; subst z
    rw [← f1, ← f2]
  rcases l with ⟨_, hm'⟩ | ⟨hk, _⟩
  · exact ⟨u, r, by rw [hm]; exact hm'⟩
  · have : X.env.kindOf x = some .local := hl
    rw [this] at hk
    rcases hk with z | z <;> cases z
theorem tup_at {P : Program} {w : World} {K : PySem.W.Frag} {h : Heap} {a : Addr} {xs : List V} (hok : HOk P w H h) (KX : K.In h) (hq : SqT K H a xs) : ∃ its : List Value, Vals xs its ∧ IsTup h a its.toArray := by
  rcases hq with hq | ⟨o, its, n, hk, hc, hs, hz, r⟩
  · obtain ⟨z, its, r, p⟩ := hq.ok hok
    exact ⟨its, r, p⟩
  · exact ⟨its.toList, r, o, KX a o hk, hc, n, by simpa using hs⟩
theorem sp_rd {K : PySem.W.Frag} {cm : Cm} {N ps : List Str} {g : Sm} {vs : List V} {Q : VK} {E : XK} (h : spG K cm ps.length (runD (N.length - ps.length) g) vs H Q E) : tS K cm g { nx := fun _ H' => Q .non H', rt := Q } (start N vs) H := by
  obtain ⟨hl, Pw, A', ss, t, ss', R, q, kk⟩ := h
  unfold runD at q
  rw [Option.bind_eq_some_iff] at q
  obtain ⟨o, q1, q2⟩ := q
  have hs : ss.length = vs.length := by have := R.len; simpa using this.symm
  have R0 := R.ext (N.length - vs.length)
  rw [← hl] at q1
  refine ⟨_, A', _, o, R0, q1, ?_⟩
  cases o with
  | nx ρ =>
    cases q2
    exact fun σ1 H1 A1 l1 R1 => kk _ H1 A1 [] _ l1 (R1.take ss.length) (RT.pure .non) .nil fun a m => nomatch m
  | rt t' ρ =>
    cases q2
    exact fun v σ1 H1 A1 F l1 R1 rt hn hF => kk v H1 A1 F _ l1 (R1.take ss.length) rt hn hF
  | bk ρ => cases q2
  | ct ρ => cases q2
/-- what a call does to the frame's own names: nothing -/
def Fk (X : Cx) (s s' : Shared) : Prop := (∀ m, s.heap.Ns X.env.locals m → s'.heap.Ns X.env.locals m) ∧ s.toks ≤ s'.toks
theorem Fk.refl : Fk X s s := ⟨fun _ h => h, Nat.le_refl _⟩
theorem Fk.trans {s1 s2 : Shared} (a : Fk X s s1) (b : Fk X s1 s2) : Fk X s s2 := ⟨fun m h => b.1 m (a.1 m h), Nat.le_trans a.2 b.2⟩
theorem fk_call {cm : Cm} {e : Expr} {es : List Expr} {p pos : Pos} {ps : List Str} {k j n : Nat} {x : Str} {mr : Rho → Option (T × Rho)} {g : Am} {Q : VK} (D : Dg X.prog X.w X.K X.mg X.base cm k x ps mr) (hr : Room j X.A) (hk : k ≤ j) (hg : Gl X x) (ha : FA X cm (e :: es) g) (I : Inv X pins σ H s)
    (hus : wpAny (model X.prog X.w) X.A (spliced (backTo pos (starEach (e :: es) X.env))) (fun _ s1 => Fk X s s1) X.xe s) (q : tN X.K cm (nCall n mr g) σ H Q) (hn : ps.length = n := by rfl)
    (hdb : (x == ("__debug__" : Str)) = false := by decide) (he : starEach (e :: es) X.env = (false, eval e X.env) :: starEach es X.env := by rfl) (hpl : (backTo pos (starEach es X.env)).any (·.1) = false := by rfl) :
    wpAny (model X.prog X.w) X.A (eval (.Call (.Name x p) (e :: es) [] pos) X.env) (fun _ s' => Fk X s s') X.xe s := by
  subst hn
  obtain ⟨f, fd, F, hm, hkp, hb⟩ := D
  refine wpAny_Call_Name_kw (ld_glob I hg hm ?_ hdb)
  refine PySem.W.callWith_K (h₀ := X.base) I.ok.mod.kin hkp (wpAny_mono (wpAny_both (ha.run pos pins s σ H _ I (tN_call (E := E0) q)) hus) (fun us s1 ⟨⟨vs, H1, I1, r, q1⟩, k1⟩ => ⟨I1.kIn, ?_⟩) fun _ _ z => z) he hpl
  have F := F.mono hk
  have r2 : Vals (vs ++ []) (us ++ []) := r.append .nil
  have hl : (us ++ []).length = ps.length := by rw [← r2.length]; exact F.len _ _ _ _ q1
  show wpAny _ _ (call (.ref f) us) _ _ s1
  refine wpAny_call (codeAny_mono (PySem.codeAny_toks_of (Nat.le_refl s1.toks) (F.run X.A X.stack s1 H1 ⟨us, []⟩ (us ++ []) (vs ++ []) Q E0 hr I1.env0 (hb s1 us I1.kIn hl) r2 q1)) fun r s' ⟨htk, hq⟩ => ?_)
  cases r with
  | error e => exact pass0 pins σ H1 s1 e s' I1 hq
  | ok fl =>
    cases fl with
    | ret u =>
      obtain ⟨v, H', os, bare, un, hok, rv, qv⟩ := hq
      refine k1.trans ⟨fun m hm => ?_, htk⟩
      obtain ⟨o, es', ep, eo, d, rest⟩ := hm
      obtain ⟨sl, e2⟩ := un.any eo I1.free (by simp)
      exact ⟨_, es', ep, e2, d, rest⟩
    | next => exact False.elim hq
    | brk => exact False.elim hq
    | cont => exact False.elim hq
/-- a call of a def that wants something of its arguments -/
theorem pex_callT {P : Shared → Prop} {Pre : Shared → List Value → Prop} {cm : Cm} {e : Expr} {es : List Expr} {p pos : Pos} {ps : List Str} {k n : Nat} {x : Str} {f : Addr} {fd : FuncData} {mr : Rho → Option (T × Rho)} {g : Am} (F : FnT X.prog X.w X.K X.mg X.base Pre k f fd ps (spG X.K cm ps.length mr))
    (hm : X.mg x = some (.ref f)) (hkp : PySem.W.keepIn X.K (.ref f) = true) (hb : L2.Binds X.K fd ps []) (hr : Room k X.A) (hg : Gl X x) (ha : FA X cm (e :: es) g)
    (hus : ∀ (pins : List (Addr × Obj)) (s : Shared) (σ : L2.St) (H : Hp), P s → Inv X pins σ H s → wpAny (model X.prog X.w) X.A (spliced (backTo pos (starEach (e :: es) X.env))) (fun us s1 => Pre s1 us) X.xe s) (hn : ps.length = n := by rfl)
    (hdb : (x == ("__debug__" : Str)) = false := by decide) (he : starEach (e :: es) X.env = (false, eval e X.env) :: starEach es X.env := by rfl) (hpl : (backTo pos (starEach es X.env)).any (·.1) = false := by rfl) :
    PEx P X (.Call (.Name x p) (e :: es) [] pos) (tN X.K cm (nCall n mr g)) := by
  subst hn
  refine ⟨fun pins s σ H Q hp I q => ?_⟩
  refine wpAny_Call_Name_kw (ld_glob I hg hm ?_ hdb)
  refine PySem.W.callWith_K (h₀ := X.base) I.ok.mod.kin hkp (wpAny_mono (wpAny_both (ha.run pos pins s σ H _ I (tN_call (E := E0) q)) (hus pins s σ H hp I)) (fun us s1 ⟨⟨vs, H1, I1, r, q1⟩, k1⟩ => ⟨I1.kIn, ?_⟩) fun _ _ z => z) he hpl
  have q2 : spG X.K cm ps.length mr vs H1 Q E0 := by
    have z : spG X.K cm ps.length mr (vs ++ []) H1 Q E0 := q1
    rw [List.append_nil] at z; exact z
  have hl : us.length = ps.length := by rw [← r.length]; exact F.len _ _ _ _ q2
  have hbs : BindsTo s1 fd ⟨us, []⟩ (ps.zip us) := by
    have z := hb s1 us I1.kIn (by rw [List.append_nil]; exact hl)
    rw [List.append_nil] at z; exact z
  show wpAny _ _ (call (.ref f) us) _ _ s1
  refine wpAny_call (codeAny_mono (F.run X.A X.stack s1 H1 ⟨us, []⟩ us vs Q E0 hr I1.env0 hbs r k1 q2) fun r s' hq => ?_)
  cases r with
  | error e => exact pass0 pins σ H1 s1 e s' I1 hq
  | ok fl =>
    cases fl with
    | ret u => exact I1.after hq
    | next => exact False.elim hq
    | brk => exact False.elim hq
    | cont => exact False.elim hq
end
end G

/-! Ly37: mirrors of Ly21..Ly33 applied to slots; operators at texts. -/
namespace G
open PySem PySem.Spec L2
@[simp] theorem nSset_ap (f : Em) (ρ : Rho) : nSset f ρ = ((f ρ).bind fun p => (rd p.2 p.1).bind fun d => match d with
  | .str s => if s.length < 63 then some (.ls ((ssort s).map fun c => .str [c]), p.2) else none
  | _ => none) := (rfl)
@[simp] theorem eJoin_ap (f g : Em) (ρ : Rho) : eJoin f g ρ = ((f ρ).bind fun p => match p.1 with
  | .val (.str a) => (g p.2).bind fun q => (rd q.2 q.1).bind fun d => (cJoin a d).map fun z => (.val z, q.2)
  | _ => none) := (rfl)
@[simp] theorem eTm_ap (m : List Nat → D → Option D) (f g : Em) (ρ : Rho) : eTm m f g ρ = ((f ρ).bind fun p => match p.1 with
  | .val (.str a) => (g p.2).bind fun q => (rd q.2 q.1).bind fun d => (m a d).map fun z => (.val z, q.2)
  | _ => none) := (rfl)
@[simp] theorem nDc_ap (own : List Nat) (f : Im) (h : D → Rho → Option Rho) (ifs : Bm) (ke ve : Em) (ρ : Rho) : nDc own f h ifs ke ve ρ = ((f ρ).bind fun p => if p.1.length ≤ big then (wipeS own p.2).bind fun ρw => (dcF own h ifs ke ve p.1 [] ρw).map fun r => (.di r.1, back p.2 r.2 own) else none) := (rfl)
@[simp] theorem nCallG_ap (n : Nat) (f : Rho → Option (T × Rho)) (g : Mm) (ρ : Rho) : nCallG n f g ρ = ((g ρ).bind fun p => match p.1 with
  | t :: ts => (pls ts).bind fun ds => if ds.length + 1 = n then (f (.pin t :: slP ds)).map fun r => (r.1, p.2) else none
  | [] => none) := (rfl)
@[simp] theorem nCallK_ap (n : Nat) (π : List Nat) (f : Rho → Option (T × Rho)) (g : Am) (ρ : Rho) : nCallK n π f g ρ = ((g ρ).bind fun p => (pus p.2 p.1).bind fun ds => if ds.length = n ∧ (pm π ds).length = n then (ap f (pm π ds)).map fun t => (t, p.2) else none) := by
  simp only [nCallK, ap, Option.map_map]; rfl
@[simp] theorem eExt_ap (i : Nat) (g : Rho → Option (T × Rho)) (ρ : Rho) : eExt i g ρ = ((isLs ρ i).bind fun _ => (g ρ).bind fun p => match p.1 with
  | .ls zs => (isLs p.2 i).bind fun s => if s.2.length + zs.length ≤ big then some (.val .non, p.2.set i (s.1.w (.ls (s.2 ++ zs)))) else none
  | _ => none) := (rfl)
@[simp] theorem nLc2_ap (own own1 : List Nat) (f : Im) (h : D → Rho → Option Rho) (ifs : Bm) (f1 : Im) (h1 : D → Rho → Option Rho) (ifs1 : Bm) (elt : Em) (ρ : Rho) : nLc2 own own1 f h ifs f1 h1 ifs1 elt ρ = ((f ρ).bind fun p => (wipeS own p.2).bind fun ρw => (lc2F own own1 h ifs f1 h1 ifs1 elt p.1 ρw).bind fun r => if r.1.length ≤ big then some (.ls r.1, back p.2 r.2 own) else none) := (rfl)
@[simp] theorem iEnS_ap (g : Am) (ρ : Rho) : iEnS g ρ = ((g ρ).bind fun p => (pus p.2 p.1).bind fun es => match es with
  | [.str x] => some (enumT x, p.2)
  | _ => none) := (rfl)
@[simp] theorem iZi2_ap (g : Am) (ρ : Rho) : iZi2 g ρ = ((g ρ).bind fun p => (pus p.2 p.1).bind fun es => match es with
  | [.str x, .str y] => some (zipT x y, p.2)
  | _ => none) := (rfl)
@[simp] theorem iOr_ap (f g : Im) (ρ : Rho) : iOr f g ρ = ((f ρ).or (g ρ)) := (rfl)
@[simp] theorem eRepl_ap (f g h : Em) (ρ : Rho) : eRepl f g h ρ = ((f ρ).bind fun p => (g p.2).bind fun q => (h q.2).bind fun r => (rd r.2 p.1).bind fun a => (rd r.2 q.1).bind fun c => (rd r.2 r.1).bind fun z => (cRepl a c z).map fun y => (.val y, r.2)) := (rfl)

@[simp] theorem cIx_str (s : List Nat) (i : Int) : cIx (.str s) (.int i) = if s.length ≤ big then (atI s i).map fun c => .str [c] else none := rfl
@[simp] theorem cInA_str (c : Nat) (s : List Nat) : cInA (.str [c]) (.str s) = some (.bl (decide (c ∈ s))) := rfl
@[simp] theorem cNi_str (c : Nat) (s : List Nat) : cNi (.str [c]) (.str s) = some (.bl (!decide (c ∈ s))) := rfl
@[simp] theorem cAdd_str (s t : List Nat) : cAdd (.str s) (.str t) = if s.length + t.length ≤ big then some (.str (s ++ t)) else none := rfl
@[simp] theorem cAdd_lst (s t : List D) : cAdd (.lst s) (.lst t) = if s.length + t.length ≤ big then some (.lst (s ++ t)) else none := rfl
@[simp] theorem cAdd_tup (s t : List D) : cAdd (.tup s) (.tup t) = if s.length + t.length ≤ big then some (.tup (s ++ t)) else none := rfl
@[simp] theorem cSl_str (s : List Nat) (l h : Option Int) : cSl (.str s) l h = if s.length ≤ big then some (.str (cutD s l h)) else none := rfl
@[simp] theorem cSl_lst (s : List D) (l h : Option Int) : cSl (.lst s) l h = some (.lst (cutD s l h)) := rfl
@[simp] theorem cSl_tup (s : List D) (l h : Option Int) : cSl (.tup s) l h = some (.tup (cutD s l h)) := rfl
@[simp] theorem cLen_str (s : List Nat) : cLen [.str s] = if s.length ≤ big then some (.int s.length) else none := rfl
@[simp] theorem isD_nn : isD .non .non = some (.bl true) := rfl
@[simp] theorem isD_in (i : Int) : isD (.int i) .non = some (.bl false) := rfl
@[simp] theorem isD_bn (i : Bool) : isD (.bl i) .non = some (.bl false) := rfl
@[simp] theorem isD_sn (s : List Nat) : isD (.str s) .non = some (.bl false) := rfl
@[simp] theorem isD_tn (s : List D) : isD (.tup s) .non = some (.bl false) := rfl
@[simp] theorem isD_ln (s : List D) : isD (.lst s) .non = some (.bl false) := rfl
@[simp] theorem notD_nn : notD .non .non = some (.bl false) := rfl
@[simp] theorem notD_in (i : Int) : notD (.int i) .non = some (.bl true) := rfl
@[simp] theorem cNeg_int (i : Int) : cNeg (.int i) = some (.int (-i)) := rfl
def okS (s : List Nat) : Prop := ∀ c ∈ s, c < 1114112
theorem ok_str {s : List Nat} (h : okS s) : D.ok (.str s) = true := by
  simp only [D.ok, D.flat, D.dep, Bool.and_eq_true, List.all_eq_true, decide_eq_true_eq]
  exact ⟨h, decide_eq_true (Nat.zero_le 64)⟩
theorem cEq_str {s t : List Nat} (hs : okS s) (ht : okS t) : cEq (.str s) (.str t) = some (.bl (decide (s = t))) := by
  unfold cEq
  rw [ok_str hs, ok_str ht]
  simp [D.eq]
theorem cNe_str {s t : List Nat} (hs : okS s) (ht : okS t) : cNe (.str s) (.str t) = some (.bl (!decide (s = t))) := by
  unfold cNe
  rw [ok_str hs, ok_str ht]
  simp [D.eq]
theorem okS_one {c : Nat} (h : c < 1114112) : okS [c] := fun d m => by
  obtain rfl : d = c := by simpa using m
  exact h
@[simp] theorem wipeS_nil (ρ : Rho) : wipeS [] ρ = some ρ := rfl
/-- a while loop by a measure -/
theorem whileF_mu {c : Bm} {b : Sm} (I : Rho → Prop) (μ : Rho → Nat) (hs : ∀ ρ, I ρ → (∃ ρ1, c ρ = some (true, ρ1) ∧ ∃ ρ2, (b ρ1 = some (.nx ρ2)) ∧ I ρ2 ∧ μ ρ2 < μ ρ) ∨ ∃ ρ1, c ρ = some (false, ρ1)) :
    ∀ (n : Nat) (ρ : Rho), I ρ → μ ρ < n → ∃ ρ' ρ1, I ρ' ∧ c ρ' = some (false, ρ1) ∧ whileF c b n ρ = some (.nx ρ1)
  | 0, _, _, h => absurd h (Nat.not_lt_zero _)
  | n + 1, ρ, i, h => by
    rcases hs ρ i with ⟨ρ1, e1, ρ2, e2, i2, lt⟩ | ⟨ρ1, e1⟩
    · obtain ⟨ρ', ρ3, i3, e3, e4⟩ := whileF_mu I μ hs n ρ2 i2 (by omega)
      exact ⟨ρ', ρ3, i3, e3, by simp [whileF, e1, e2, e4]⟩
    · exact ⟨ρ, ρ1, i, e1, by simp [whileF, e1]⟩
/-- a comprehension that leaves things out; every turn leaves the slots as they were -/
theorem lcF_filter {own : List Nat} {h : D → Rho → Option Rho} {ifs : Bm} {elt : Em} {ρ : Rho} {f : D → D} {p : D → Bool} : ∀ {ds : List D}, (∀ d ∈ ds, ∃ ρ1 ρ2, h d ρ = some ρ1 ∧ ifs ρ1 = some (p d, ρ2) ∧ (p d = true → ∃ r ρ3, elt ρ2 = some (r, ρ3) ∧ pu ρ3 r = some (f d) ∧ wipeS own ρ3 = some ρ) ∧ (p d = false → wipeS own ρ2 = some ρ)) → lcF own h ifs elt ds ρ = some ((ds.filter p).map f, ρ)
  | [], _ => rfl
  | d :: ds, k => by
    obtain ⟨ρ1, ρ2, e1, e2, e3, e4⟩ := k d (by simp)
    have ih := lcF_filter (ds := ds) fun d m => k d (by simp [m])
    cases hp : p d with
    | true =>
      obtain ⟨r, ρ3, e5, e6, e7⟩ := e3 hp
      simp [lcF, e1, e2, hp, e5, e6, e7, ih, List.filter_cons]
    | false =>
      have e7 := e4 hp
      simp [lcF, e1, e2, hp, e7, ih, List.filter_cons]
/-- the same over a list that comes of another one -/
theorem lcF_mp {α : Type} {own : List Nat} {h : D → Rho → Option Rho} {ifs : Bm} {elt : Em} {ρ : Rho} (u g : α → D) : ∀ {xs : List α}, (∀ x ∈ xs, ∃ ρ1 ρ2 r ρ3, h (u x) ρ = some ρ1 ∧ ifs ρ1 = some (true, ρ2) ∧ elt ρ2 = some (r, ρ3) ∧ pu ρ3 r = some (g x) ∧ wipeS own ρ3 = some ρ) → lcF own h ifs elt (xs.map u) ρ = some (xs.map g, ρ)
  | [], _ => rfl
  | x :: xs, k => by
    obtain ⟨ρ1, ρ2, r, ρ3, e1, e2, e3, e4, e5⟩ := k x (by simp)
    have ih := lcF_mp u g (xs := xs) fun d m => k d (by simp [m])
    simp [lcF, e1, e2, e3, e4, e5, ih]
theorem lcF_fp {α : Type} {own : List Nat} {h : D → Rho → Option Rho} {ifs : Bm} {elt : Em} {ρ : Rho} (u g : α → D) (p : α → Bool) : ∀ {xs : List α}, (∀ x ∈ xs, ∃ ρ1 ρ2, h (u x) ρ = some ρ1 ∧ ifs ρ1 = some (p x, ρ2) ∧ (p x = true → ∃ r ρ3, elt ρ2 = some (r, ρ3) ∧ pu ρ3 r = some (g x) ∧ wipeS own ρ3 = some ρ) ∧ (p x = false → wipeS own ρ2 = some ρ)) →
    lcF own h ifs elt (xs.map u) ρ = some ((xs.filter p).map g, ρ)
  | [], _ => rfl
  | x :: xs, k => by
    obtain ⟨ρ1, ρ2, e1, e2, e3, e4⟩ := k x (by simp)
    have ih := lcF_fp u g p (xs := xs) fun d m => k d (by simp [m])
    cases hp : p x with
    | true =>
      obtain ⟨r, ρ3, e5, e6, e7⟩ := e3 hp
      simp [lcF, e1, e2, hp, e5, e6, e7, ih, List.filter_cons]
    | false =>
      have e7 := e4 hp
      simp [lcF, e1, e2, hp, e7, ih, List.filter_cons]
end G

/-! Ly38: plain facts that the laws' plain parts share. -/
namespace G
open PySem PySem.Spec L2
theorem big_is : big = 1000000 := rfl
theorem mulOk_r {i j : Int} (h : j.natAbs < 2 ^ 63) : mulOk i j = true := by simp [mulOk, h]
theorem mulOk_l {i j : Int} (h : i.natAbs < 2 ^ 63) : mulOk i j = true := by simp [mulOk, h]
theorem rgOk_of {m : Int} (h : m.natAbs < 2 ^ 60) : rgOk m = true := Nat.ble_eq.mpr (by omega)
theorem rgOk_nat {m : Nat} (h : m < 2 ^ 60) : rgOk (m : Int) = true := rgOk_of (by omega)
theorem cutD_from {α : Type} (xs : List α) (k : Nat) : cutD xs (some (k : Int)) none = xs.drop k := by
  rw [cutD, HT.sIx_nat, HT.sIx_none]
  by_cases h : k ≤ xs.length
  · rw [Nat.min_eq_left h, List.take_of_length_le (by rw [List.length_drop]; exact Nat.le_refl _)]
  · rw [List.drop_eq_nil_of_le (by omega : xs.length ≤ k), List.drop_eq_nil_of_le (by omega), List.take_nil]
theorem cutD_upto {α : Type} (xs : List α) (k : Nat) : cutD xs none (some (k : Int)) = xs.take k := by
  rw [cutD, HT.sIx_nat, HT.sIx_none, List.drop_zero, Nat.sub_zero]
  by_cases h : k ≤ xs.length
  · rw [Nat.min_eq_left h]
  · rw [Nat.min_eq_right (by omega), List.take_of_length_le (Nat.le_refl _), List.take_of_length_le (by omega)]
theorem cutD_one {α : Type} (xs : List α) : cutD xs (some 1) none = xs.drop 1 := cutD_from xs 1
theorem cutD_map {α β : Type} (f : α → β) (xs : List α) (l h : Option Int) : cutD (xs.map f) l h = (cutD xs l h).map f := by
  simp [cutD, List.map_take, List.map_drop]
theorem cutD_len {α : Type} (xs : List α) (l h : Option Int) : (cutD xs l h).length ≤ xs.length := by
  simp [cutD]; omega
theorem boolL_map {α : Type} (f : α → Bool) : ∀ ds : List α, boolL (ds.map fun d => D.bl (f d)) = some (ds.map f)
  | [] => rfl
  | d :: ds => by
    simp only [List.map_cons, boolL, boolL_map f ds]
    rfl
theorem cAll_map {α : Type} (f : α → Bool) (ds : List α) : cAll [.lst (ds.map fun d => D.bl (f d))] = some (.bl (ds.all f)) := by
  simp only [cAll, boolL_map]
  simp [List.all_map]
theorem intL_mp {α : Type} (f : α → Int) : ∀ ds : List α, intL (ds.map fun d => D.int (f d)) = some (ds.map f)
  | [] => rfl
  | d :: ds => by
    simp only [List.map_cons, intL, intL_mp f ds]
    rfl
theorem strL_mp {α : Type} (f : α → List Nat) : ∀ ds : List α, strL (ds.map fun d => D.str (f d)) = some (ds.map f)
  | [] => rfl
  | d :: ds => by
    simp only [List.map_cons, strL, strL_mp f ds]
    rfl
/-- a text as a list of its signs -/
def sgs (xs : List Nat) : List D := xs.map fun c => .str [c]
@[simp] theorem sgs_len (xs : List Nat) : (sgs xs).length = xs.length := by simp [sgs]
theorem jnL_nil : ∀ xs : List Nat, jnL [] (xs.map fun c => [c]) = xs
  | [] => rfl
  | [c] => rfl
  | c :: d :: r => by
    have ih := jnL_nil (d :: r)
    simp only [List.map_cons] at ih ⊢
    rw [jnL]
    rw [ih]; rfl
theorem sum_ones : ∀ xs : List Nat, ((xs.map fun c => [c]).map (·.length)).sum = xs.length
  | [] => rfl
  | c :: r => by
    have := sum_ones r
    simp only [List.map_cons, List.sum_cons, this, List.length_cons, List.length_nil]
    omega
theorem cJoin_sgs (xs : List Nat) (h : xs.length ≤ big) : cJoin [] (.lst (sgs xs)) = some (.str xs) := by
  simp only [cJoin, lstD, sgs, Option.bind_some, strL_mp fun c : Nat => [c], jnL_nil, sum_ones]
  rw [if_pos]
  simpa using h
/-! sorting signs -/
def nsort : List Nat → List Nat
  | [] => []
  | c :: r => nins c (nsort r)
where nins (c : Nat) : List Nat → List Nat
  | [] => [c]
  | b :: r => if b < c then b :: nins c r else c :: b :: r
theorem sg_lt (a b : Nat) : (([a] : List Nat) < [b]) ↔ a < b := by
  simp [List.cons_lt_cons_iff]
theorem sLt_one (a b : Nat) : sLt [a] [b] = decide (a < b) := by
  unfold sLt
  by_cases h : a < b
  · rw [decide_eq_true h, decide_eq_true ((sg_lt a b).mpr h)]
  · rw [decide_eq_false h, decide_eq_false fun z => h ((sg_lt a b).mp z)]
theorem insT_sg (c : Nat) : ∀ r : List Nat, insT [c] (r.map fun c => [c]) = (nsort.nins c r).map fun c => [c]
  | [] => rfl
  | b :: r => by
    simp only [List.map_cons, insT, nsort.nins, sg_lt]
    split
    · rw [insT_sg c r]; rfl
    · rfl
theorem tsort_sg : ∀ r : List Nat, tsort (r.map fun c => [c]) = (nsort r).map fun c => [c]
  | [] => rfl
  | c :: r => by
    simp only [List.map_cons, tsort, nsort, tsort_sg r, insT_sg]
theorem nins_perm (c : Nat) : ∀ r, (nsort.nins c r).Perm (c :: r)
  | [] => .refl _
  | b :: r => by
    unfold nsort.nins
    split
    · exact ((nins_perm c r).cons b).trans (.swap _ _ _)
    · exact .refl _
theorem nsort_perm : ∀ r, (nsort r).Perm r
  | [] => .refl _
  | c :: r => (nins_perm c _).trans ((nsort_perm r).cons c)
theorem nsort_id : ∀ {r : List Nat}, r.Pairwise (· < ·) → nsort r = r
  | [], _ => rfl
  | [c], _ => rfl
  | c :: d :: r, h => by
    have h' := List.pairwise_cons.mp h
    rw [nsort, nsort_id h'.2, nsort.nins, if_neg]
    have := h'.1 d (by simp)
    omega
theorem cSortX_str (xs : List Nat) (h : xs.length < 64) : cSortX [.str xs] = some (sgs (nsort xs)) := by
  simp only [cSortX, if_pos h, tsort_sg, sgs, List.map_map]
  rfl
theorem cSortX_sgs (xs : List Nat) (h : xs.length < 64) : cSortX [.lst (sgs xs)] = some (sgs (nsort xs)) := by
  simp only [cSortX, cSortT, sgs, strL_mp fun c : Nat => [c], Option.bind_some, List.length_map, if_pos h, tsort_sg, List.map_map]
  rfl
/-- comprehensions of two -/
theorem lc2F_fp {α : Type} {own own1 : List Nat} {h : D → Rho → Option Rho} {ifs : Bm} {f1 : Im} {h1 : D → Rho → Option Rho} {ifs1 : Bm} {elt : Em} {ρ : Rho} (u : α → D) (g : α → List D) : ∀ {xs : List α},
    (∀ x ∈ xs, ∃ ρ1 ρ2 ds ρ3 ρ4 ρ5, h (u x) ρ = some ρ1 ∧ ifs ρ1 = some (true, ρ2) ∧ f1 ρ2 = some (ds, ρ3) ∧ wipeS own1 ρ3 = some ρ4 ∧ lcF own1 h1 ifs1 elt ds ρ4 = some (g x, ρ5) ∧ wipeS own ρ5 = some ρ) → lc2F own own1 h ifs f1 h1 ifs1 elt (xs.map u) ρ = some (xs.flatMap g, ρ)
  | [], _ => rfl
  | x :: xs, k => by
    obtain ⟨ρ1, ρ2, ds, ρ3, ρ4, ρ5, e1, e2, e3, e4, e5, e6⟩ := k x (by simp)
    have ih := lc2F_fp u g (xs := xs) fun d m => k d (by simp [m])
    simp [lc2F, e1, e2, e3, e4, e5, e6, ih]
theorem rgD_mp (n : Nat) : rgD 0 n = (List.range n).map fun i => D.int (i : Nat) := by
  simp [rgD]
theorem dcF_new {α : Type} {own : List Nat} {h : D → Rho → Option Rho} {ifs : Bm} {ke ve : Em} {ρ : Rho} (u : α → D) (kf : α → DK) (vf : α → D) : ∀ {xs : List α} {acc : List (DK × D)}, xs.Pairwise (fun a b => kf a ≠ kf b) → (∀ p ∈ acc, ∀ x ∈ xs, p.1 ≠ kf x) →
    (∀ x ∈ xs, ∃ ρ1 ρ2 q ρ3 r ρ4 kd, h (u x) ρ = some ρ1 ∧ ifs ρ1 = some (true, ρ2) ∧ ke ρ2 = some (q, ρ3) ∧ ve ρ3 = some (r, ρ4) ∧ rd ρ4 q = some kd ∧ kd.k? = some (kf x) ∧ pu ρ4 r = some (vf x) ∧ wipeS own ρ4 = some ρ) → dcF own h ifs ke ve (xs.map u) acc ρ = some (acc ++ xs.map fun x => (kf x, vf x), ρ)
  | [], acc, _, _, _ => by simp [dcF]
  | x :: xs, acc, nd, n0, k => by
    obtain ⟨ρ1, ρ2, q, ρ3, r, ρ4, kd, e1, e2, e3, e4, e5, e6, e7, e8⟩ := k x (by simp)
    have nd' := List.pairwise_cons.mp nd
    have ep : putD acc (kf x) (vf x) = acc ++ [(kf x, vf x)] := putD_new fun p m => n0 p m x (by simp)
    have ih := dcF_new u kf vf (xs := xs) (acc := acc ++ [(kf x, vf x)]) nd'.2 (fun p m y my => by
      rcases List.mem_append.mp m with m | m
      · exact n0 p m y (by simp [my])
      · have : p = (kf x, vf x) := by simpa using m
        subst this
        exact nd'.1 y my) fun d m => k d (by simp [m])
    simp only [List.map_cons, dcF, e1, e2, e3, e4, e5, e6, e7, e8, ep, ih, Option.bind_some, if_true]
    simp
theorem lookK_mp {α : Type} (kf : α → DK) (vf : α → D) {x : α} : ∀ {xs : List α}, x ∈ xs → (∀ y ∈ xs, kf y = kf x → y = x) → lookK (xs.map fun x => (kf x, vf x)) (kf x) = some (vf x)
  | [], m, _ => nomatch m
  | y :: ys, m, inj => by
    by_cases h : kf y = kf x
    · have := inj y (by simp) h
      subst this
      simp [lookK]
    · have m' : x ∈ ys := by
        rcases List.mem_cons.mp m with e | e
        · exact absurd (by rw [e]) h
        · exact e
      have ih := lookK_mp kf vf m' fun z mz => inj z (by simp [mz])
      unfold lookK at ih ⊢
      rw [List.map_cons, List.find?_cons_of_neg (by simpa using h)]
      exact ih
theorem mem_cutD {α : Type} {xs : List α} {l h : Option Int} {c : α} (m : c ∈ cutD xs l h) : c ∈ xs := List.mem_of_mem_drop (List.mem_of_mem_take m)
theorem argO_zero (ρ : Rho) (i : Nat) (rs : List RV) : argO ρ 0 (.ref i :: rs) = (ρ[i]?.bind Sl.t).bind fun t => if t.root then (pus ρ rs).map fun ds => .pin t :: slP ds else none := rfl
theorem refAt_zero (i : Nat) (rs : List RV) : refAt 0 (.ref i :: rs) = some i := rfl
theorem rdAt_vp (d : D) : rdAt (some (.v (.p d))) = some d := rfl
/-- a list of signs is plain -/
theorem sgs_flat : ∀ {xs : List Nat}, okS xs → D.flats (sgs xs) = true ∧ D.deps (sgs xs) = 0
  | [], _ => ⟨rfl, rfl⟩
  | c :: r, h => by
    have ih := sgs_flat (xs := r) fun d m => h d (by simp [m])
    have hc := h c (by simp)
    constructor
    · show (D.flat (.str [c]) && D.flats (sgs r)) = true
      rw [ih.1]
      simp [D.flat, hc]
    · show max (D.dep (.str [c])) (D.deps (sgs r)) = 0
      rw [ih.2]
      rfl
theorem sgs_ok {xs : List Nat} (h : okS xs) : D.ok (.lst (sgs xs)) = true := by
  have := sgs_flat h
  simp only [D.ok, D.flat, D.dep, this.1, this.2, Bool.true_and]
  exact decide_eq_true (by decide)
theorem cNe_sgs {xs : List Nat} (h : okS xs) : cNe (.lst (sgs xs)) (.lst []) = some (.bl (decide (xs ≠ []))) := by
  unfold cNe
  rw [sgs_ok h]
  have e : D.ok (.lst []) = true := by decide
  rw [e]
  cases xs with
  | nil => rfl
  | cons c r => rfl
theorem sgs_app (xs ys : List Nat) : sgs xs ++ sgs ys = sgs (xs ++ ys) := by simp [sgs]
theorem sgs_erase (i : Nat) (xs : List Nat) : (sgs xs).eraseIdx i = sgs (xs.eraseIdx i) := by simp [sgs, List.eraseIdx_eq_take_drop_succ, List.map_take, List.map_drop]
theorem sgs_get {xs : List Nat} {i : Nat} (h : i < xs.length) : (sgs xs)[i]? = some (.str [xs[i]]) := by simp [sgs, h]
theorem cutD_sgs (xs : List Nat) (l h : Option Int) : cutD (sgs xs) l h = sgs (cutD xs l h) := cutD_map _ xs l h
/-- the only one -/
theorem only_one {p : Nat → Bool} {n i : Nat} (hi : i < n) (hp : p i = true) (hu : ∀ j, j < n → p j = true → j = i) : (List.range n).filter p = [i] := by
  refine lt_uniq (List.Pairwise.filter _ List.pairwise_lt_range) (List.pairwise_singleton _ _) fun x => ?_
  rw [List.mem_filter, List.mem_range, List.mem_singleton]
  exact ⟨fun h => hu x h.1 h.2, fun h => by subst h; exact ⟨hi, hp⟩⟩
end G

set_option maxHeartbeats 2000000
/-! La39: sorted(a dict, key=lambda ..) at the model: the lambda's turns, the keys' loop. -/
namespace G
open PySem PySem.Spec L2 LamX NdefX PyProof.Rows
section
variable {X : Cx} {pins : List (Addr × Obj)} {σ : L2.St} {H : Hp} {s t : Shared}
theorem far (I : Inv X pins σ H s) {b : Addr} (hb : s.heap.objs.size ≤ b) : b ∉ frs X.stack := fun z => by
  cases I.stkSub b z with
  | head => exact absurd (Nat.lt_of_lt_of_le I.lt hb) (Nat.lt_irrefl _)
  | tail _ m => exact I.nofs hb m
/-- what stands aside of all that is told stays -/
def Aside (X : Cx) (H H' : Hp) (h h' : Heap) : Prop := ∀ b o, h.get? b = some o → H b = none → b ∉ frs X.stack → h'.get? b = some o ∧ H' b = none
abbrev lamF (qual : Str) (params : Arguments) (scope : Scope) (cl : List (Str × Addr)) (c' : Addr) : NF := ⟨"<lambda>", qual, params, [], scope, cl, c'⟩
/-- one turn of a lambda with one parameter -/
theorem lam_turn {A : Around} {N fr : List Str} {a qual : Str} {params : Arguments} {body : Expr} {scope : Scope} {cl : List (Str × Addr)} {c' f : Addr} {pm ctv v : Value} {x : V} {ws : List (Option V)} {k : Nat} {tb : TE} {Q : VK} {E : Value → Shared → Prop}
    (I : Inv X pins σ H s) (S : NScope N [a] fr scope) (hr : Room (k + 1) A) (e0 : Env0 X.prog X.w X.K X.mg X.base A X.stack s H)
    (hf : s.heap.get? f = some (PySem.W.kla_obj "<lambda>" qual params body scope cl pm c' ctv)) (hc : H c' = some (CodeO c' qual))
    (hb : ∀ u : Value, bindArgs (PySem.W.kla_fn "<lambda>" qual params body scope cl pm (.ref c') ctv) ⟨[u], []⟩ = pure [(a, u)])
    (C : CellsAt cl fr ws s.heap H) (rv : RelV x v)
    (hbody : ∀ (outer : List Env) (s : Shared) (H : Hp), Room k (A.deeper (envF (lamF qual params scope cl c') f s.heap.objs.size)) → PE (ncx CX0 X.prog X.w X.K X.mg X.base N (lamF qual params scope cl c') f A outer s H E0) body tb) (hq : tb (startF N [x] ws) H Q) :
    wpAny (model X.prog X.w) A (call (.ref f) [v]) (fun u s' => ∃ y H', Inv X pins σ H' s' ∧ RelV y u ∧ Q y H' ∧ Aside X H H' s.heap s'.heap) E s := by
  obtain ⟨⟨oc, vs, tt, hoc, hdc, hvc⟩, _, _⟩ := I.hok c' _ hc
  have fin : codeAny (model X.prog X.w) A (.call (.ref f) ⟨[v], []⟩) (CR CX0 X.stack X.prog X.w H s Q E0) s := by
    refine PySem.W.kla_callFunE hr.depth hf rfl S.co S.gen rfl ⟨c', oc, vs, tt, rfl, hoc, hdc, hvc⟩ ?_
    rw [hb v]
    refine wpAny_pure (wpAny_newFunctionEnv S.nocell (fun y hy => ?_) (fun h1 hns hsb => ⟨I.nolimit.fresh _ hsb, ?_⟩) S.kind)
    · obtain rfl : y = (a, v) := by simpa using hy
      exact S.par a (by simp)
    have up : ∀ b o, s.heap.get? b = some o → h1.get? b = some o := fun b o e => hsb.extBut b o (Nat.ne_of_lt (Heap.lt_size e)) (Heap.get?_push_of_some _ e)
    have J := inv_startN (CX := CX0) (N := N) (ps := [a]) (fr := fr) (F := lamF qual params scope cl c') (f := f) (E := E0) (us := [v]) (vs := [x]) (ws := ws) (h₁ := h1) (tk := s.toks + [(a, v)].length) S hr.hd e0 rfl (.cons rv .nil) C hns up
    refine PySem.W.kla_codeExpr (wpAny_mono ((hbody X.stack s H (hr.deeper _)).run [] _ _ H Q J hq) (fun u s' z => ?_) fun _ _ z => z)
    obtain ⟨y, H', J', ry, q⟩ := z
    exact ⟨y, H', J'.os, J'.bare, J'.base, J'.hok, ry, q⟩
  refine wpAny_call (codeAny_mono fin fun r s' z => ?_)
  cases r with
  | error e => exact False.elim z
  | ok fl =>
    cases fl with
    | ret u =>
      obtain ⟨y, H', os, bare, un, hok, ry, q⟩ := z
      obtain ⟨hh, g, d, tk, os'⟩ := s'
      obtain rfl : os' = s.os := os
      exact ⟨y, H', I.call (h' := hh) (g' := g) (d' := d) (t' := tk) (ch := []) un hok bare (fun b z => nomatch z), ry, q, fun b o e n m => ⟨un.keep b o e n m (by simp), un.free b o e n (by simp)⟩⟩
    | next => exact False.elim z
    | brk => exact False.elim z
    | cont => exact False.elim z
end
end G

set_option maxHeartbeats 2000000
/-! La40: xs.sort(key=f) where f's turns may do what they like as long as what is told holds. -/
namespace G
open PySem PySem.Spec L2 LamX NdefX PyProof.Rows
section
variable {X : Cx} {pins : List (Addr × Obj)} {σ : L2.St} {H : Hp} {s t : Shared}
/-- what the keys' loop knows -/
structure Lp (X : Cx) (pins : List (Addr × Obj)) (σ : L2.St) (f kS a : Addr) (fo : Obj) (e1 : Nat) (Rr : Hp → Prop) (ns : List Int) (H' : Hp) (t : Shared) (kA : Array Value) (e : Nat) : Prop where
  inv : Inv X pins σ H' t
  r : Rr H'
  nk : H' kS = none
  na : H' a = none
  nf : H' f = none
  ok : t.heap.get? kS = some (seqObj "list" kA e)
  oa : t.heap.get? a = some (seqObj "list" #[] e1)
  of : t.heap.get? f = some fo
  ks : IntsAre kA.toList ns
/-- an address of ours that nobody knows -/
structure Own (X : Cx) (pins : List (Addr × Obj)) (b : Addr) : Prop where
  loc : b ≠ X.env.locals
  fs : b ∉ X.fs
  new : X.s_0.heap.objs.size ≤ b
  cell : ∀ x c, X.env.cells.lookup x = some c → c ≠ b
  pin : ∀ p ∈ X.pn ++ pins, p.1 ≠ b
  far : b ∉ frs X.stack
theorem own_of (I : Inv X pins σ H s) {b : Addr} (hb : s.heap.objs.size ≤ b) : Own X pins b := by
  obtain ⟨_, h2, h3, h4, h5, h6⟩ := I.fpOk (H' := fun _ => none) hb rfl
  exact ⟨h2, h3, Nat.le_trans I.sz hb, h5, h6, G.far I hb⟩
theorem ints_snoc {k : Int} {u : Tok} : ∀ {vs : List Value} {ns : List Int}, IntsAre vs ns → IntsAre (vs ++ [.int k u]) (ns ++ [k])
  | _, _, .nil => .cons k u .nil
  | _, _, .cons n t h => .cons n t (ints_snoc h)
theorem ints_each {h : Heap} : ∀ {vs : List Value} {ns : List Int}, IntsAre vs ns → PySem.W.EachIs (fun v k => ∃ as, Reads h v k as) vs (ns.map PyData.int)
  | _, _, .nil => .nil
  | _, _, .cons n t r => .cons ⟨[], .int n t⟩ (ints_each r)
theorem ints_len : ∀ {vs : List Value} {ns : List Int}, IntsAre vs ns → vs.length = ns.length
  | _, _, .nil => rfl
  | _, _, .cons _ _ r => by simp [ints_len r]
theorem ints_alike (ns : List Int) : PySem.W.AllAlike (ns.map PyData.int) := fun d hd d' hd' => by
  obtain ⟨x, _, rfl⟩ := List.mem_map.mp hd
  obtain ⟨y, _, rfl⟩ := List.mem_map.mp hd'
  rfl
theorem ints_sortable (ns : List Int) : PySem.W.Sortable (ns.map PyData.int) := .inr fun d hd => by
  obtain ⟨x, _, rfl⟩ := List.mem_map.mp hd
  exact ⟨fun z => (nomatch z), fun xs z => (nomatch z)⟩
theorem each_pairs {xs : List V} {vs : List Value} : ∀ {ns : List Int}, Vals xs vs → ns.length = xs.length → PySem.W.EachIs (fun v (b : V × Int) => RelV b.1 v) vs (xs.zip ns)
  | [], .nil, _ => .nil
  | n :: ns, .cons r rs, h => .cons r (each_pairs rs (by simpa using h))
theorem each_vals : ∀ {bs : List (V × Int)} {vs : List Value}, PySem.W.EachIs (fun v (b : V × Int) => RelV b.1 v) vs bs → Vals (bs.map (·.1)) vs
  | _, _, .nil => .nil
  | _, _, .cons r rs => .cons r (each_vals rs)
/-- the sorted ones, by their keys, those alike as they came -/
def bykey {α : Type} (xs : List (α × Int)) : List α := (xs.mergeSort fun a b => decide (a.2 ≤ b.2)).map (·.1)
/-- the loop over the keys, and what sorts by them -/
theorem key_rest {A : Around} {f kS a : Addr} {fo : Obj} {e1 : Nat} {Rr : Hp → Prop} {ns : List Int} {xs : List V} {vs : List Value} {kA : Array Value} {e : Nat} {R : PySem.Fin → Shared → Prop} {E : Value → Shared → Prop} {HS : Hp}
    (L : Lp X pins σ f kS a fo e1 Rr [] HS t #[] e) (ok : Own X pins kS) (oa : Own X pins a) (ff : f ∉ frs X.stack) (hka : kS ≠ a) (hfk : f ≠ kS) (rv : Vals xs vs) (hl : ns.length = xs.length) (hz : vs.length ≤ sizeLine) (hu : A.units < cLine)
    (turn : ∀ (i : Nat) (x : V) (k : Int) (v : Value) (t : Shared) (H' : Hp), xs[i]? = some x → ns[i]? = some k → RelV x v → Rr H' → Inv X pins σ H' t → t.heap.get? f = some fo → H' f = none →
      wpAny (model X.prog X.w) A (call (.ref f) [v]) (fun u t' => ∃ y H'', Inv X pins σ H'' t' ∧ RelV y u ∧ (y = .int k ∧ Rr H'') ∧ Aside X H' H'' t.heap t'.heap) (fun _ _ => False) t)
    (fin : ∀ (H' : Hp) (t' : Shared) (ys : List V), Rr H' → H' a = none → ys = bykey (xs.zip ns) → Inv X pins σ (upd H' a (.lst ys)) t' → R (.done (.ret .none)) t') :
    wpAny (model X.prog X.w) A (ksk_rest a (.ref f) false vs.toArray e1 (.ref kS)) R E t := by
  have hvl : xs.length = vs.length := rv.length
  unfold ksk_rest
  refine wpAny_bind (wpAny_rule (wpAny_bind ?_))
  have hfor : ∀ body : Value → PUnit → Sem (ForInStep PUnit), (forIn vs.toArray PUnit.unit body : Sem PUnit) = forIn vs PUnit.unit body := fun body => by
    first
      | exact List.forIn_toArray
      | (rw [List.forIn_toArray])
      | (rw [← Array.forIn_toList])
  rw [hfor]
  refine ksk_fold (fun i s' => ∃ H' kB e', Lp X pins σ f kS a fo e1 Rr (ns.take i) H' s' kB e') vs 0 t ⟨HS, #[], e, by rw [List.take_zero]; exact L⟩ (fun j v t1 hj ⟨H1, kB, e', L1⟩ => ?_) fun t1 ⟨H1, kB, e', L1⟩ => ?_
  · have hjl : j < vs.length := (List.getElem?_eq_some_iff.mp hj).1
    obtain ⟨k, hk⟩ : ∃ k, ns[j]? = some k := ⟨_, List.getElem?_eq_getElem (by omega)⟩
    obtain ⟨x, hx⟩ : ∃ x, xs[j]? = some x := ⟨_, List.getElem?_eq_getElem (by omega)⟩
    obtain ⟨v', ev, rxv⟩ := rv.get hx
    rw [hj] at ev
    obtain rfl : v = v' := Option.some.inj ev
    rw [Nat.zero_add] at L1 ⊢
    refine wpAny_bind (wpAny_attempt (wpAny_mono (turn j x k v t1 H1 hx hk rxv L1.r L1.inv L1.of L1.nf) (fun u t2 ⟨y, H2, I2, ry, ⟨ey, r2⟩, asd⟩ => ?_) fun _ _ z => z.elim))
    subst ey
    obtain ⟨tk, rfl⟩ := ry
    obtain ⟨k2, nk2⟩ := asd kS _ L1.ok L1.nk ok.far
    obtain ⟨a2, na2⟩ := asd a _ L1.oa L1.na oa.far
    obtain ⟨f2, nf2⟩ := asd f _ L1.of L1.nf ff
    have hsz : kB.size = j := by
      have := ints_len L1.ks
      rw [Array.length_toList, List.length_take] at this
      omega
    obtain ⟨c2, hc2⟩ : ∃ c2, (t2.heap.update kS (Obj.mapSeq (·.push (.int k tk)))).get? kS = some (seqObj "list" (kB.push (.int k tk)) c2) := ⟨_, get?_update_seq k2 (·.push (.int k tk))⟩
    have oth : ∀ b, b ≠ kS → (t2.heap.update kS (Obj.mapSeq (·.push (.int k tk)))).get? b = t2.heap.get? b := fun b hb => Heap.get?_update_other _ _ (Ne.symm hb)
    refine wpAny_bind (listUpdate_at k2 rfl (wpAny_pure ⟨rfl, H2, kB.push (.int k tk), c2, ?_⟩) (by rw [hsz]; omega) (by rw [Array.size_push, hsz]; omega))
    refine ⟨I2.turned (t' := t2.toks) (fun b o hb q => by rw [oth b hb]; exact q) nk2 ok.loc (.inr ok.new) ok.cell ok.pin, r2, nk2, na2, nf2, hc2, by rw [oth a (Ne.symm hka)]; exact a2, ?_, ?_⟩
    · rw [oth f hfk]; exact f2
    · rw [List.take_add_one, hk, Array.toList_push]
      exact ints_snoc L1.ks
  · have hfull : ns.take (0 + vs.length) = ns := List.take_of_length_le (by omega)
    rw [hfull] at L1
    have hsz : kB.toList.length = vs.length := by rw [ints_len L1.ks]; omega
    have hb : kB.size = vs.length := by rw [← hsz, Array.length_toList]
    let hid := PySem.W.hideAll t1.heap [kS]
    refine wpAny_bind (listItems_at L1.ok rfl (PySem.W.keyH_end (κ := PySem.W.dataKind t1.heap (ns.map PyData.int)) (h₁ := hid) (fun b o hne q => PySem.W.of_hideAll _ q) (PySem.W.hideAll_none _ (by simp)) L1.ok L1.oa hka
      (PySem.W.SortsAt.data (s := t1) (ints_each L1.ks) (ints_alike ns) (ints_sortable ns) (fun d hd => by
        obtain ⟨x, _, rfl⟩ := List.mem_map.mp hd
        exact hu)) hb hz fun h2 tk c kp hD => ?_))
    have outE := PySem.W.keyedOut_each (rev := false) (R := fun v (b : V × Int) => RelV b.1 v) (bs := xs.zip ns) (vs := vs) (out := PySem.W.sortVals (PySem.W.dataKind t1.heap (ns.map PyData.int)) false kB.toList vs) (fun b => .int b.2)
      ⟨t1.heap, kB.toList, by
        have e : (xs.zip ns).map (fun b : V × Int => PyData.int b.2) = ns.map PyData.int := by
          have := List.map_snd_zip (l₁ := xs) (l₂ := ns) (by omega)
          rw [← this, List.map_map, this]
          rfl
        rw [e]
        exact ⟨ints_alike ns, rfl, ints_each L1.ks⟩⟩ (each_pairs rv hl)
    rw [PySem.W.dataLe_int fun b : V × Int => b.2] at outE
    have outV := each_vals outE
    let hm := h2.update a (fun _ => seqObj "list" #[] e1)
    have hm_a : hm.get? a = some (seqObj "list" #[] e1) := Heap.get?_update_self _ hD rfl
    have hm_o : ∀ b, b ≠ a → hm.get? b = h2.get? b := fun b hb => Heap.get?_update_other _ _ (Ne.symm hb)
    have I1 : Inv X pins σ H1 { t1 with heap := hm, toks := tk } := L1.inv.turned (fun b o hb q => by
      by_cases z : b = a
      · rw [z] at q ⊢
        rw [hm_a, ← q, L1.oa]
      · rw [hm_o b z]
        exact kp b o z (PySem.W.hideAll_get _ q (by simpa using hb))) L1.nk ok.loc (.inr ok.new) ok.cell ok.pin
    have hlen : (bykey (xs.zip ns)).length ≤ sizeLine := by
      show ((_ : List (V × Int)).map _).length ≤ _
      rw [List.length_map, List.length_mergeSort, List.length_zip]
      omega
    have I2 : Inv X pins σ (upd H1 a (.lst (bykey (xs.zip ns)))) { t1 with heap := h2, toks := tk } := I1.take (t' := tk) (h' := h2) (fun b o hb q => by rw [← hm_o b hb]; exact q) ⟨L1.na, oa.loc, oa.fs, .inr oa.new, oa.cell, oa.pin⟩
      ⟨hlen, _, c, outV, hD⟩
    exact fin H1 _ _ L1.r L1.na rfl I2
end
end G

set_option maxHeartbeats 2000000
/-! La41: sorted(a dict, key=f). -/
namespace G
open PySem PySem.Spec L2 LamX NdefX PyProof.Rows
section
variable {X : Cx} {pins : List (Addr × Obj)} {σ : L2.St} {H : Hp} {s t : Shared}
theorem call_sortK {d f : Addr} {fo : Obj} {kvs : List (Key × V)} {ns : List Int} {Rr : Hp → Prop} {Q : VK} {E : Value → Shared → Prop} (hcalm : X.calm = true) (I : Inv X pins σ H s) (hd : Rd H d (.dK kvs)) (hn : kvs.length ≤ 1000000) (hf : s.heap.get? f = some fo) (nf : H f = none) (ff : f ∉ frs X.stack)
    (hl : ns.length = kvs.length) (r0 : Rr H) (hu : X.A.units + 2 < cLine)
    (turn : ∀ (i : Nat) (x : V) (k : Int) (v : Value) (t : Shared) (H' : Hp), (kvs.map fun q => kV q.1)[i]? = some x → ns[i]? = some k → RelV x v → Rr H' → Inv X pins σ H' t → t.heap.get? f = some fo → H' f = none →
      wpAny (model X.prog X.w) X.A.in1.in1 (call (.ref f) [v]) (fun u t' => ∃ y H'', Inv X pins σ H'' t' ∧ RelV y u ∧ (y = .int k ∧ Rr H'') ∧ Aside X H' H'' t.heap t'.heap) (fun _ _ => False) t)
    (fin : ∀ (H' : Hp) (p : Addr), Rr H' → H' p = none → Q (.ref p) (upd H' p (.lst (bykey ((kvs.map fun q => kV q.1).zip ns))))) :
    wpAny (model X.prog X.w) X.A (call (.builtin "sorted") [.ref d] [(Str.ofString "key", .ref f)]) (EP X pins σ Q) E s := by
  obtain ⟨z, lo, vs, rel, dd⟩ := dk_rd I.hok hd
  obtain ⟨ep, hat⟩ := dd.dictAt
  have hlen : kvs.length = vs.length := rel.length
  have h16 : vs.length ≤ sizeLine := by rw [sizeLine_eq]; omega
  have ek : kvs.map (fun q => kV q.1) = vs.map fun q => kV q.1 := by
    have e := congrArg (List.map kV) rel.keys
    rw [List.map_map, List.map_map] at e
    exact e
  refine PyProof.Rows.call_function_entry_kw kind_sorted plain_sorted entry_sorted (ksk_s1 _ _) ?_
  unfold Builtin.«sorted»
  refine wpAny_bind (m := checkCount "sorted" 1 1 _) (wpAny_pure (wpAny_bind (PySem.W.kdu_collect (A := X.A.in1) (PySem.W.kdl_dict (knd := mixKind X.prog X.w) (kvs := vs) (ep := ep) lo) (I.ok.hd hcalm) hat h16 fun h1 tk acc hk hacc => ?_)))
  have hv : Vals (kvs.map fun q => kV q.1) acc.toList := by
    rw [ek]
    exact keys_at (by rw [Array.length_toList]; exact hacc.1) fun j v e => hacc.2 j v (by rw [← Array.getElem?_toList]; exact e)
  have hal : acc.toList.length = kvs.length := by have := hv.length; rw [List.length_map] at this; exact this.symm
  have hz : acc.toList.length ≤ sizeLine := by rw [hal, hlen]; exact h16
  refine wpAny_bind (wpAny_newList ?_ hz)
  have hoL : (h1.push (seqObj "list" acc.toList.toArray 0)).get? h1.objs.size = some (seqObj "list" acc.toList.toArray 0) := Heap.get?_push_size _ rfl
  refine wpAny_bind (wpAny_holding (PyProof.Rows.wpAny_call_entry_kw slot_list_sort ⟨_, hoL, rfl⟩ entry_list_sort ?_ (ksk_l1 _ _)))
  rw [ksk_t1]
  unfold ksk_tree
  generalize hA : h1.objs.size = a at hoL ⊢
  obtain ⟨e1, ho1⟩ : ∃ e1, ((h1.push (seqObj "list" acc.toList.toArray 0)).update a (Obj.mapSeq fun _ => (#[] : Array Value))).get? a = some (seqObj "list" #[] e1) := ⟨_, get?_update_seq hoL fun _ => #[]⟩
  have k1 : ∀ b o, s.heap.get? b = some o → ((h1.push (seqObj "list" acc.toList.toArray 0)).update a (Obj.mapSeq fun _ => (#[] : Array Value))).get? b = some o := fun b o q => by
    have q1 := hk b o q
    have lt := Heap.lt_size q1
    rw [Heap.get?_update_other _ _ (show a ≠ b from fun z => by rw [← z, ← hA] at lt; exact Nat.lt_irrefl _ lt)]
    exact Heap.get?_push_of_some _ q1
  refine wpAny_bind (listItems_at hoL rfl (wpAny_bind (listUpdate_at hoL rfl (wpAny_bind (seqEpoch_at ho1 rfl (wpAny_bind (wpAny_newTuple (wpAny_bind (wpAny_newList (wpAny_holding ?_) (Nat.zero_le _))) ?_)))) (by rw [List.size_toArray]; exact hz) (Nat.zero_le _))))
  rotate_left
  · rw [List.toList_toArray]; exact hz
  have I1 : Inv X pins σ H { s with heap := h1, toks := tk } := I.kept hk
  have oa : Own X pins a := own_of I1 (Nat.le_of_eq hA)
  have na : H a = none := I1.hok.fresh (Nat.le_of_eq hA)
  have goalE : ∀ (g3 g4 : Heap) (R : PySem.Fin → Shared → Prop) (E' : Value → Shared → Prop), g3.get? a = some (seqObj "list" #[] e1) → (∀ b o, s.heap.get? b = some o → g3.get? b = some o) → (∀ b o, g3.get? b = some o → g4.get? b = some o) →
      (∀ (H' : Hp) (t' : Shared), Rr H' → H' a = none → Inv X pins σ (upd H' a (.lst (bykey ((kvs.map fun q => kV q.1).zip ns)))) t' → R (.done (.ret .none)) t') →
      wpAny (model X.prog X.w) X.A.in1.in1 (ksk_rest a (.ref f) false acc.toList.toArray e1 (.ref g4.objs.size)) R E' { s with heap := g4.push (seqObj "list" #[] 0), toks := tk } := fun g3 g4 R E' ho1 k1 k4 hR => by
    have I3 : Inv X pins σ H { s with heap := g4, toks := tk } := I.kept fun b o q => k4 b o (k1 b o q)
    have ok : Own X pins g4.objs.size := own_of I3 (Nat.le_refl _)
    have nk : H g4.objs.size = none := I3.hok.fresh (Nat.le_refl _)
    have k5 : ∀ b o, g3.get? b = some o → (g4.push (seqObj "list" #[] 0)).get? b = some o := fun b o q => Heap.get?_push_of_some _ (k4 b o q)
    have I5 : Inv X pins σ H { s with heap := g4.push (seqObj "list" #[] 0), toks := tk } := I.kept fun b o q => k5 b o (k1 b o q)
    have hka : g4.objs.size ≠ a := fun z => by
      have := Heap.lt_size (k4 a _ ho1)
      rw [z] at this
      exact Nat.lt_irrefl _ this
    have hfk : f ≠ g4.objs.size := fun z => by
      have := Heap.lt_size (k4 f _ (k1 f _ hf))
      rw [z] at this
      exact Nat.lt_irrefl _ this
    exact key_rest (xs := kvs.map fun q => kV q.1) (fo := fo) (Rr := Rr) (ns := ns) (kA := #[]) (e := 0) (HS := H) ⟨I5, r0, nk, na, nf, Heap.get?_push_size _ rfl, k5 a _ ho1, k5 f _ (k1 f _ hf), .nil⟩ ok oa ff hka hfk hv (by rw [List.length_map]; exact hl) hz hu turn
      fun H' t' ys r1 n1 e I' => hR H' t' r1 n1 (by rw [← e]; exact I')
  exact goalE _ _ _ _ ho1 k1 (fun b o q => Heap.get?_push_of_some _ q) fun H' t' r1 n1 I' => ⟨_, rfl, wpAny_pure ⟨_, rfl, V.ref a, _, I', rfl, fin H' a r1 n1⟩⟩
end
end G

set_option maxHeartbeats 2000000
/-! La42: sorted(a dict, key=lambda x: ..) as a mirror. -/
namespace G
open PySem PySem.Spec L2 LamX NdefX PyProof.Rows
open PyProof.Rows (envOfC)
/-- what the captured names hold: values that stand -/
def capS (ρ : Rho) : List Nat → Option (List D)
  | [] => some []
  | j :: js => match ρ[j]? with
    | some (.v (.p d)) => (capS ρ js).map fun ds => d :: ds
    | _ => none
/-- the keys by the lambda's mirror -/
def keyN (m : Em) (cs : List D) : List D → Option (List Int)
  | [] => some []
  | d :: ds => (m (slP (d :: cs))).bind fun p => match p.1 with
    | .val (.int n) => (keyN m cs ds).map fun ns => n :: ns
    | _ => none
def nSortK (i : Nat) (js : List Nat) (m : Em) : Rho → Option (T × Rho) := fun ρ => (dicS i ρ).bind fun p => if p.1.length ≤ big then (capS p.2 js).bind fun cs => (keyN m cs (keysD p.1)).map fun ns => (.ls (bykey ((keysD p.1).zip ns)), p.2) else none
theorem keyN_at {m : Em} {cs : List D} : ∀ {ds : List D} {ns : List Int}, keyN m cs ds = some ns → ns.length = ds.length ∧ ∀ (i : Nat) (d : D) (k : Int), ds[i]? = some d → ns[i]? = some k → ∃ ρ', m (slP (d :: cs)) = some (.val (.int k), ρ')
  | [], ns, e => by cases e; exact ⟨rfl, fun i d k h => by simp at h⟩
  | d :: ds, ns, e => by
    simp only [keyN, Option.bind_eq_some_iff] at e
    obtain ⟨⟨r, ρ'⟩, e1, e2⟩ := e
    dsimp only at e2
    split at e2
    · rename_i n
      rw [Option.map_eq_some_iff] at e2
      obtain ⟨ns', e3, rfl⟩ := e2
      obtain ⟨h1, h2⟩ := keyN_at e3
      refine ⟨by simp [h1], fun i d' k hd hk => ?_⟩
      cases i with
      | zero => cases hd; cases hk; exact ⟨ρ', e1⟩
      | succ i => exact h2 i d' k (by simpa using hd) (by simpa using hk)
    · cases e2
theorem bykey_map {α β : Type} (f : α → β) (xs : List (α × Int)) : bykey (xs.map fun p => (f p.1, p.2)) = (bykey xs).map f := by
  unfold bykey
  rw [← List.map_mergeSort (r := fun a b : α × Int => decide (a.2 ≤ b.2)) (f := fun p : α × Int => (f p.1, p.2)) (fun a _ b _ => rfl), List.map_map, List.map_map]
  rfl
section
variable {K : PySem.W.Frag} {cm : Cm} {A A' : AS} {H H' : Hp} {C : Fc} {σ : L2.St} {ρ : Rho}
theorem capS_ok (R : RS K cm C A [] σ H ρ) : ∀ {js : List Nat} {cs : List D}, capS ρ js = some cs → ∃ vs : List V, js.map (slotAt σ) = vs.map some ∧ RpL K cm A H vs cs
  | [], cs, e => by cases e; exact ⟨[], rfl, .nil⟩
  | j :: js, cs, e => by
    unfold capS at e
    split at e
    · rename_i d q
      rw [Option.map_eq_some_iff] at e
      obtain ⟨ds, e1, rfl⟩ := e
      obtain ⟨vs, h1, h2⟩ := capS_ok R e1
      obtain ⟨F, _, _, _, _, h5⟩ := R.sl
      obtain ⟨o, e2, v, rfl, rt, _⟩ := h5 j _ q
      refine ⟨v :: vs, ?_, .cons rt.2 h2⟩
      rw [List.map_cons, List.map_cons, h1, slotAt_of e2]
    · cases e
/-- the tables have grown, a code object came -/
theorem RS.extN (R : RS K cm C A [] σ H ρ) (e : ExtN H H') (dm : ∀ a, H a ≠ none → H' a ≠ none) (nx : ∀ a φ, A a → H' a ≠ some (.ext φ)) (t : Tabs cm.T H') : Lt C A H A H' ∧ RS K cm C A [] σ H' ρ := by
  have l : Later A H A H' := ⟨fun a o q n _ => e a o q n, fun _ z => .inl z, dm⟩
  obtain ⟨F, h1, h2, h3, h4, h5⟩ := R.sl
  refine ⟨⟨l, fun a o _ q n => e a o q n⟩, R.len, ⟨F, h1, h2, h3, h4, fun i s q => ?_⟩, R.out, R.sub, fun a z => dm a (R.dom a z), fun a o q n np => e a o (R.fr a o q n np) n, fun a z => dm a (R.fd a z), t, fun a z φ => nx a φ z⟩
  obtain ⟨o, e1, r⟩ := h5 i s q
  exact ⟨o, e1, r.keep l fun a _ o q n => e a o q n⟩
end
section
variable {X : Cx} {pins : List (Addr × Obj)} {σ : L2.St} {H : Hp} {s : Shared}
/-- what a lambda's making leaves: the same heap, or one more code object in the table -/
def Made (H H1 : Hp) (q : Str) : Prop := H1 = H ∨ ∃ P ps more c', H P = some (.tbl ps) ∧ H c' = none ∧ H1 = upd (upd H P (.tbl (ps ++ more))) c' (CodeO c' q)
theorem Made.ext {H1 : Hp} {q : Str} (m : Made H H1 q) : ExtN H H1 ∧ (∀ a, H a ≠ none → H1 a ≠ none) ∧ ∀ a φ, H a ≠ none → (∀ φ, H a ≠ some (.ext φ)) → H1 a ≠ some (.ext φ) := by
  rcases m with rfl | ⟨P, ps, more, c', hP, hc, rfl⟩
  · exact ⟨ExtN.refl _, fun _ z => z, fun a φ _ z => z φ⟩
  · refine ⟨fun b o e n => ?_, fun b e => ?_, fun b φ e z q2 => ?_⟩
    · rw [upd_ne (ne_of_none e hc), upd_ne (fun w => n ps (Option.some.inj ((show H b = some o from e).symm.trans (by rw [w]; exact hP))))]; exact e
    · by_cases w : b = c'
      · exact absurd (by rw [w]; exact hc) e
      · rw [upd_ne w]
        by_cases w2 : b = P
        · rw [w2, upd_same]; exact fun z => nomatch z
        · rw [upd_ne w2]; exact e
    · by_cases w : b = c'
      · exact e (by rw [w]; exact hc)
      · rw [upd_ne w] at q2
        by_cases w2 : b = P
        · rw [w2, upd_same] at q2; cases q2
        · rw [upd_ne w2] at q2; exact z φ q2
theorem lam_make3 {T : List (Addr × Str)} {c P : Addr} {params : Arguments} {body : Expr} {scope : Scope} {pos : Pos} {E : Value → Shared → Prop} {Q : Value → Shared → Prop} (J : Inv X pins σ H s) (B : TabB X.base X.mg c P) (ec : X.env.code = .ref c)
    (hin : (P, X.env.qual ++ "<lambda>") ∈ T) (huq : ∀ p ∈ T, p.1 = P → p.2 = X.env.qual ++ "<lambda>") (tb : Tabs T H) (nod : defaultsOf params X.env = ([], [])) (cap : ∀ y ∈ scope.names, y.2 = .free → ∃ c, X.env.cells.lookup y.1 = some c)
    (k : ∀ (f c' : Addr) (pm ctv : Value) (H1 : Hp) (s' : Shared), Inv X pins σ H1 s' → Made H H1 (X.env.qual ++ "<lambda>") → Tabs T H1 → H1 c' = some (CodeO c' (X.env.qual ++ "<lambda>")) → H1 f = none → f ∉ frs X.stack →
      s'.heap.get? f = some (PySem.W.kla_obj "<lambda>" (X.env.qual ++ "<lambda>") params body scope (cloFrom X.env.cells scope.names []) pm c' ctv) → Q (.ref f) s') :
    wpAny (model X.prog X.w) X.A (eval (.Lambda params body scope pos) X.env) Q E s := by
  obtain ⟨tab, atP, tri, known⟩ := tb _ hin
  have bi : s.heap.BuiltinsAt X.mg P := B.bm.keeps J.bk
  have oP : s.heap.get? P = some { cls := .none, data := .fields tab } := J.hok P _ atP
  have fresh : ∀ f, s.heap.objs.size ≤ f → f ∉ frs X.stack := fun f z => G.far J z
  refine PySem.W.kla_eval nod ?_
  generalize hca : codeAmong pos tab.toList = oc
  cases oc with
  | some cv =>
    obtain ⟨c', rfl, there⟩ := known pos cv hca
    refine PySem.W.kla_makeFunctionHit (mg := X.mg) (c := c) (P := P) (ps := tab) (closure_ok cap) J.ok.glob (J.mod.glob.keeps J.bk) ec (B.code.keeps J.bk) oP tri hca bi fun ctv g tk up sz => ?_
    exact k g.objs.size c' ((X.mg "__name__").getD .none) ctv H _ (J.kept (t' := tk) fun b o e => Heap.get?_push_of_some _ (up b o e)) (.inl rfl) tb there (J.hok.fresh sz) (fresh _ sz) (Heap.get?_push_size _ rfl)
  | none =>
    refine PySem.W.kla_makeFunction (mg := X.mg) (c := c) (P := P) (ps := tab) (closure_ok cap) J.ok.glob (J.mod.glob.keeps J.bk) ec (B.code.keeps J.bk) oP tri hca B.gP bi fun c' ctv g tk up ge lt rec new => ?_
    obtain ⟨c2, ob, vs, t, e2, ho, hd, hv⟩ := rec
    cases e2
    have sz : s.heap.objs.size ≤ g.objs.size := Nat.le_of_lt (Nat.lt_of_le_of_lt ge lt)
    have hn : H c' = none := J.hok.fresh ge
    have md : Made H (upd (upd H P (.tbl (tab ++ #[rawInt pos.line, rawInt pos.col, .ref c']))) c' (CodeO c' (X.env.qual ++ "<lambda>"))) (X.env.qual ++ "<lambda>") := .inr ⟨P, tab, _, c', atP, hn, rfl⟩
    have J1 := inv_table (t' := tk) (more := #[rawInt pos.line, rawInt pos.col, .ref c']) (h' := g.push (PySem.W.kla_obj "<lambda>" (X.env.qual ++ "<lambda>") params body scope (cloFrom X.env.cells scope.names []) ((X.mg "__name__").getD .none) c' ctv)) J atP (fun b o hb e => Heap.get?_push_of_some _ (up b o hb e)) (Heap.get?_push_of_some _ new) ge ⟨ob, vs, t, Heap.get?_push_of_some _ ho, hd, hv⟩
    have nf : g.objs.size ∉ frs X.stack := fresh _ sz
    have ex := md.ext.1
    have app : (tab ++ #[rawInt pos.line, rawInt pos.col, .ref c']).toList = tab.toList ++ [rawInt pos.line, rawInt pos.col, .ref c'] := by simp
    have nP : P ≠ c' := ne_of_none atP hn
    have at_c : upd (upd H P (.tbl (tab ++ #[rawInt pos.line, rawInt pos.col, .ref c']))) c' (CodeO c' (X.env.qual ++ "<lambda>")) c' = some (CodeO c' (X.env.qual ++ "<lambda>")) := upd_same
    refine k g.objs.size c' ((X.mg "__name__").getD .none) ctv _ _ J1 md (fun p hp => ?_) at_c ?_ nf (Heap.get?_push_size _ rfl)
    · by_cases w : p.1 = P
      · refine ⟨tab ++ #[rawInt pos.line, rawInt pos.col, .ref c'], ?_, ?_, fun p' cv hcv => ?_⟩
        · rw [w, upd_ne nP, upd_same]
        · rw [app]; exact PySem.TriplesOk_snoc _ _ _ _ tri
        · rw [app] at hcv
          rw [huq p hp w]
          rcases among_app _ tri hcv with z | z
          · obtain ⟨c0, e1, e2⟩ := known p' cv z
            exact ⟨c0, e1, ex _ _ e2 codeO_ne⟩
          · exact ⟨c', z, at_c⟩
      · obtain ⟨ps', a1, a2, a3⟩ := tb p hp
        refine ⟨ps', ?_, a2, fun p' cv hcv => ?_⟩
        · rw [upd_ne (ne_of_none a1 hn), upd_ne w]; exact a1
        · obtain ⟨c0, e1, e2⟩ := a3 p' cv hcv
          exact ⟨c0, e1, ex _ _ e2 codeO_ne⟩
    · have g1 : g.objs.size ≠ c' := Nat.ne_of_gt lt
      have g2 : g.objs.size ≠ P := fun z => Nat.lt_irrefl _ (Nat.lt_of_lt_of_le (Heap.lt_size oP) (by rw [← z]; exact sz))
      rw [upd_ne g1, upd_ne g2]
      exact J.hok.fresh sz
end
end G

set_option maxHeartbeats 2000000
/-! La43: sorted(a dict, key=lambda x: ..) as a mirror: the rule. -/
namespace G
open PySem PySem.Spec L2 LamX NdefX PyProof.Rows
section
variable {X : Cx} {cm : Cm}
theorem fn_sortK {i : Nat} {js : List Nat} {fr : List Str} {a : Str} {c P : Addr} {params : Arguments} {body iter : Expr} {scope : Scope} {lpos kpos p pos : Pos} {k : Nat} {m : Em} (hcalm : X.calm = true) (hg : Gl X "sorted") (hm : X.mg "sorted" = none) (ho : PE X iter (tVar i))
    (TB : TabB X.base X.mg c P) (hcode : X.env.code = .ref c) (hmT : (P, X.env.qual ++ "<lambda>") ∈ cm.T) (huT : ∀ p ∈ cm.T, p.1 = P → p.2 = X.env.qual ++ "<lambda>") (hr : Room (k + 3) X.A) (S : NScope (a :: fr) [a] fr scope)
    (hfree : ∀ y ∈ scope.names, y.2 = .free → X.env.scope.names.lookup y.1 = some .cell ∨ X.env.scope.names.lookup y.1 = some .free) (hfr : ∀ y ∈ fr, (y, NameKind.free) ∈ scope.names) (hjs : js.map (fun j => X.N[j]?) = fr.map some) (hdef : defaultsOf params X.env = ([], []))
    (hb : ∀ (qual : Str) (cl : List (Str × Addr)) (pm cv ctv u : Value), bindArgs (PySem.W.kla_fn "<lambda>" qual params body scope cl pm cv ctv) ⟨[u], []⟩ = pure [(a, u)])
    (hbody : ∀ (A : Around) (outer : List Env) (s : Shared) (H : Hp) (f c' : Addr), Room k (A.deeper (envF (lamF (X.env.qual ++ "<lambda>") params scope (cloFrom X.env.cells scope.names []) c') f s.heap.objs.size)) →
      FE (ncx CX0 X.prog X.w X.K X.mg X.base (a :: fr) (lamF (X.env.qual ++ "<lambda>") params scope (cloFrom X.env.cells scope.names []) c') f A outer s H E0) cm body m)
    (he : backTo pos (starEach [iter] X.env) = (false, eval iter X.env) :: backTo pos (starEach [] X.env) := by rfl) (hpl : (backTo pos (starEach [iter] X.env)).any (·.1) = false := by rfl)
    (hs : starEach [iter] X.env = (false, eval iter X.env) :: starEach [] X.env := by rfl) :
    FN X cm (.Call (.Name "sorted" p) [iter] [⟨some "key", .Lambda params body scope lpos, kpos⟩] pos) (nSortK i js m) := by
  refine ⟨fun pins s σ H Q I h => ?_⟩
  obtain ⟨C, A, ρ, t, ρ', R, q, kk⟩ := h
  unfold nSortK at q
  rw [Option.bind_eq_some_iff] at q
  obtain ⟨⟨kvs, ρ1⟩, h0, q⟩ := q
  dsimp only at q
  split at q
  rotate_left
  · cases q
  rename_i hbig
  simp only [Option.bind_eq_some_iff, Option.map_eq_some_iff] at q
  obtain ⟨cs, hcap, ns, hkn, e⟩ := q
  cases e
  obtain ⟨A1, d, ks, l1, R1, hv, hd, hnd, hk⟩ := dicS_ok R h0
  obtain ⟨hnl, hat⟩ := keyN_at hkn
  have hkl : ks.length = kvs.length := hk.length
  refine wpAny_Call_Name_kw (ld_blt I hg hm boot_sorted ?_)
  refine callWith_kw (thn ((pa_cons ho pa_nil hs).run pos pins s σ H (fun vs H' => vs = [.ref d] ∧ H' = H) I ⟨.ref d, hv, rfl, rfl⟩) fun us s1 ⟨vs, H', I1, r1, e1, e2⟩ => ?_) he hpl
  subst e2
  subst e1
  obtain ⟨u, rfl, ru⟩ := r1.one
  cases ru
  show wpAny _ _ (evalAll [do let v ← eval (.Lambda params body scope lpos) X.env; standAt pos; pure v]) _ _ s1
  refine wpAny_evalAll_cons (wpAny_bind (lam_make3 I1 TB hcode hmT huT R1.tb hdef (fun y hy e => (hfree y hy e).elim (fun z => I1.ok.has _ (.inl z)) fun z => I1.ok.has _ (.inr z)) fun f c' pm ctv H1 s2 I2 md T1 hc' hfn hff hfo => wpAny_bind (wpAny_standAt (wpAny_pure (wpAny_evalAll_nil ?_)))))
  obtain ⟨ex, dm, nx⟩ := md.ext
  obtain ⟨l2, R2⟩ := R1.extN ex dm (fun b φ z => nx b φ (R1.dom b z) (R1.ne b z)) T1
  have hd2 : Rd H1 d (.dK ks) := by
    rcases hd with z | ⟨o, z⟩
    · exact .inl (ex _ _ z (fun _ w => nomatch w))
    · exact .inr ⟨o, ex _ _ z (fun _ w => nomatch w)⟩
  let Rr : Hp → Prop := fun H' => H' c' = some (CodeO c' (X.env.qual ++ "<lambda>")) ∧ ∃ A', Lt C A1 H1 A' H' ∧ RS X.K cm C A' [] σ H' ρ'
  show wpAny _ _ (call (.builtin "sorted") [.ref d] [(Str.ofString "key", .ref f)]) _ _ s2
  refine call_sortK (Rr := Rr) (ns := ns) (E := X.xe) hcalm I2 hd2 (by rw [hkl]; exact hbig) hfo hfn hff (by rw [hnl, hkl]; simp [keysD]) ⟨hc', A1, .refl _ _, R2⟩ (by have := hr.un; omega) ?_ ?_
  · rintro j x n v t H' hx hn rv ⟨cc, A', l', R'⟩ I' hf' nf'
    obtain ⟨vs, hvs, rl⟩ := capS_ok R' hcap
    obtain ⟨⟨key, w⟩, hkj, rfl⟩ : ∃ kv, ks[j]? = some kv ∧ kV kv.1 = x := by
      rw [List.getElem?_map, Option.map_eq_some_iff] at hx
      exact hx
    have hlj : j < kvs.length := by
      have := (List.getElem?_eq_some_iff.mp hkj).1
      omega
    obtain ⟨⟨kd, dv⟩, hkd⟩ : ∃ kv, kvs[j]? = some kv := ⟨_, List.getElem?_eq_getElem hlj⟩
    obtain ⟨v', e3, _⟩ := hk.at hkd
    rw [hkj] at e3
    obtain ⟨rfl, rfl⟩ : key = kd.k ∧ w = v' := by
      have := Option.some.inj e3
      exact ⟨congrArg Prod.fst this, congrArg Prod.snd this⟩
    obtain ⟨ρ2, em⟩ := hat j kd.d n (by simp [keysD, hkd]) hn
    have rx : Rp X.K cm A' H' (kV kd.k) kd.d := kV_d kd
    have R0 := R'.args (.cons rx rl)
    have cp := Caps.made (fr := fr) (js := js) I'.ok hfree hfr hjs
    have hlen : vs.length = fr.length := by
      have e4 := congrArg List.length hvs
      have e5 := congrArg List.length hjs
      rw [List.length_map, List.length_map] at e4 e5
      exact e4.symm.trans e5
    have hst : startF (a :: fr) [kV kd.k] (js.map (slotAt σ)) = (kV kd.k :: vs).map some := by
      unfold startF
      rw [hvs]
      simp [hlen]
    refine lam_turn (ws := js.map (slotAt σ)) (k := k) (tb := tE X.K cm m) I' S (hr.in1.in1) I'.env0.in1.in1 hf' cc (fun u => hb _ _ _ _ _ u) (cells_of I' cp) rv (fun outer s H hrm => hbody _ outer s H f c' hrm) ?_
    rw [hst]
    refine ⟨_, A', slP (kd.d :: cs), .val (.int n), ρ2, R0, em, fun v H2 A2 l3 R3 w3 => ?_⟩
    have w3' : Rp X.K cm A2 H2 v (.int n) := w3
    cases w3'
    obtain ⟨l4, R4, _⟩ := R'.after l3 R3 (fun a m => nomatch m)
    exact ⟨rfl, l3.l.st _ _ cc (fun ps => codeO_ne ps) (fun z => R'.ne _ z _ cc), A2, l'.trans l4, R4⟩
  · rintro H' pp ⟨cc, A', l', R'⟩ np
    have hpair : (ks.map fun q => kV q.1).zip ns = (kvs.zip ns).map fun z => (kV z.1.1.k, z.2) := by
      have : ks.map (fun q => kV q.1) = kvs.map fun q => kV q.1.k := by
        refine List.ext_getElem? fun j => ?_
        rw [List.getElem?_map, List.getElem?_map]
        cases hkd : kvs[j]? with
        | none =>
          have : ks[j]? = none := List.getElem?_eq_none (by have := List.getElem?_eq_none_iff.mp hkd; omega)
          rw [this]; rfl
        | some kv =>
          obtain ⟨v', e3, _⟩ := hk.at (k := kv.1) (d := kv.2) hkd
          rw [e3]; rfl
      rw [this, List.zip_map_left]
      rfl
    have hpair2 : (keysD kvs).zip ns = (kvs.zip ns).map fun z => (z.1.1.d, z.2) := by
      unfold keysD
      rw [List.zip_map_left]
      rfl
    have rel : ∀ zs : List (DK × D), RpL X.K cm A' H' (zs.map fun z => kV z.1.k) (zs.map fun z => z.1.d) := by
      intro zs
      induction zs with
      | nil => exact .nil
      | cons z zs ih => exact .cons (kV_d z.1) ih
    rw [hpair, bykey_map (fun z : DK × D => kV z.1.k)]
    rw [hpair2, bykey_map (fun z : DK × D => z.1.d)] at kk
    obtain ⟨l5, R5, hF⟩ := own1 (o := .lst ((bykey (kvs.zip ns)).map fun z => kV z.1.k)) R' np
    exact kk (.ref pp) _ _ [pp] (((l1.trans l2).trans l').trans l5) R5 ⟨pp, _, rfl, rfl, upd_same, (rel _).later l5.l⟩ (by simp) hF
end
end G

set_option maxHeartbeats 2000000
/-! La44: min, max of lists and tuples of whole numbers, texts, pairs of these. -/
namespace G
open PySem PySem.Spec L2 PyProof.Rows
def D.a1 : D → D → Bool
  | .int _, .int _ => true
  | .str _, .str _ => true
  | _, _ => false
def D.e1 : D → D → Bool
  | .int i, .int j => decide (i = j)
  | .str s, .str t => decide (s = t)
  | _, _ => false
def D.l1 : D → D → Bool
  | .int i, .int j => decide (i < j)
  | .str s, .str t => decide (s < t)
  | _, _ => false
/-- of one kind: two numbers, two texts, two pairs of one kind -/
def D.alk : D → D → Bool
  | .tup [a, b], .tup [c, d] => D.a1 a c && D.a1 b d
  | a, b => D.a1 a b
def D.lt : D → D → Bool
  | .tup [a, b], .tup [c, d] => if D.e1 a c then (if D.e1 b d then false else D.l1 b d) else D.l1 a c
  | a, b => D.l1 a b
theorem a1_py {x y : D} (h : D.a1 x y = true) : PySem.W.alike x.py y.py = true ∧ PySem.W.dataLt x.py y.py = D.l1 x y ∧ PyData.eqv x.py y.py = D.e1 x y ∧ x.py ≠ .none ∧ x.py.depth = 0 ∧ (x.py = y.py → x = y) := by
  cases x <;> cases y <;> try cases h
  · rename_i i j
    simp only [D.py]
    refine ⟨rfl, PySem.W.dataLt_int _ _, ?_, fun z => (nomatch z), rfl, fun z => by injection z with z; rw [z]⟩
    simp only [PyData.eqv, D.e1]
    by_cases q : i = j <;> simp [q]
  · rename_i s t
    simp only [D.py]
    refine ⟨rfl, ?_, ?_, fun z => (nomatch z), rfl, fun z => by injection z with z; rw [S_inj z]⟩
    · rw [PySem.W.dataLt_str]
      simp only [S, D.l1]
      exact decide_eq_decide.mpr Iff.rfl
    · simp only [PyData.eqv, D.e1]
      by_cases q : s = t
      · subst q; simp
      · have : S s ≠ S t := fun z => q (S_inj z)
        simp [q, this]
theorem alk_py {x y : D} (h : D.alk x y = true) : PySem.W.alike x.py y.py = true ∧ PySem.W.dataLt x.py y.py = D.lt x y ∧ x.py ≠ .none ∧ x.py.depth ≤ 1 ∧ (x.py = y.py → x = y) := by
  unfold D.alk at h
  split at h
  · rename_i a b c d
    rw [Bool.and_eq_true] at h
    obtain ⟨p1, p2, p3, p4, p5, p6⟩ := a1_py h.1
    obtain ⟨q1, q2, q3, q4, q5, q6⟩ := a1_py h.2
    simp only [D.py, D.pys]
    refine ⟨?_, ?_, fun z => (nomatch z), ?_, fun z => ?_⟩
    · simp [PySem.W.alike, PySem.W.alikeAll, p1, q1]
    · rw [PySem.W.dataLt_pair p1 q1, p3, q3, p2, q2]
      rfl
    · simp [PyData.depth, PyData.depthAll, p5, q5]
    · injection z with z
      injection z with z1 z2
      injection z2 with z2 _
      rw [p6 z1, q6 z2]
  · rename_i n
    obtain ⟨p1, p2, _, p4, p5, p6⟩ := a1_py h
    refine ⟨p1, ?_, p4, by omega, p6⟩
    rw [p2]
    unfold D.lt
    split
    · cases h
    · rfl
/-- a row of one kind -/
def rowK (d : D) (ds : List D) : Bool := d.alk d && ds.all (fun y => d.alk y && y.alk y && y.alk d) && ds.all (fun y => ds.all fun z => y.alk z) && D.flats (d :: ds)
def minR (d : D) (ds : List D) : D := ds.foldl (fun a y => if D.lt y a then y else a) d
def maxR (d : D) (ds : List D) : D := ds.foldl (fun a y => if D.lt a y then y else a) d
theorem rowK_all {d : D} {ds : List D} (h : rowK d ds = true) : (∀ x ∈ d :: ds, ∀ y ∈ d :: ds, D.alk x y = true) ∧ D.flats (d :: ds) = true := by
  simp only [rowK, Bool.and_eq_true, List.all_eq_true] at h
  obtain ⟨⟨⟨h1, h2⟩, h3⟩, h4⟩ := h
  refine ⟨fun x hx y hy => ?_, h4⟩
  rcases List.mem_cons.mp hx with ex | mx <;> rcases List.mem_cons.mp hy with ey | my
  · rw [ex, ey]; exact h1
  · rw [ex]; exact (h2 y my).1.1
  · rw [ey]; exact (h2 x mx).2
  · exact h3 x mx y my
theorem minR_mem (d : D) : ∀ ds : List D, minR d ds ∈ d :: ds := by
  intro ds
  unfold minR
  induction ds generalizing d with
  | nil => simp
  | cons y ys ih =>
    rw [List.foldl_cons]
    have := ih (if D.lt y d then y else d)
    rcases List.mem_cons.mp this with e | e
    · rw [e]; split <;> simp
    · simp [e]
theorem maxR_mem (d : D) : ∀ ds : List D, maxR d ds ∈ d :: ds := by
  intro ds
  unfold maxR
  induction ds generalizing d with
  | nil => simp
  | cons y ys ih =>
    rw [List.foldl_cons]
    have := ih (if D.lt d y then y else d)
    rcases List.mem_cons.mp this with e | e
    · rw [e]; split <;> simp
    · simp [e]
theorem pys_map : ∀ ds : List D, D.pys ds = ds.map D.py
  | [] => rfl
  | d :: ds => by simp [D.pys, pys_map ds]
theorem minR_py {d : D} : ∀ {ds : List D}, (∀ x ∈ d :: ds, ∀ y ∈ d :: ds, D.alk x y = true) → PySem.W.minD d.py (D.pys ds) = (minR d ds).py := by
  intro ds h
  rw [pys_map]
  unfold PySem.W.minD minR
  induction ds generalizing d with
  | nil => rfl
  | cons y ys ih =>
    rw [List.map_cons, List.foldl_cons, List.foldl_cons, (alk_py (h y (by simp) d (by simp))).2.1]
    cases q : D.lt y d
    · rw [if_neg (by simp), if_neg (by simp)]
      exact ih fun x hx z hz => h x (by simp at hx ⊢; rcases hx with e | e <;> simp [e]) z (by simp at hz ⊢; rcases hz with e | e <;> simp [e])
    · rw [if_pos rfl, if_pos rfl]
      exact ih fun x hx z hz => h x (by simp at hx ⊢; rcases hx with e | e <;> simp [e]) z (by simp at hz ⊢; rcases hz with e | e <;> simp [e])
theorem maxR_py {d : D} : ∀ {ds : List D}, (∀ x ∈ d :: ds, ∀ y ∈ d :: ds, D.alk x y = true) → PySem.W.maxD d.py (D.pys ds) = (maxR d ds).py := by
  intro ds h
  rw [pys_map]
  unfold PySem.W.maxD maxR
  induction ds generalizing d with
  | nil => rfl
  | cons y ys ih =>
    rw [List.map_cons, List.foldl_cons, List.foldl_cons, (alk_py (h d (by simp) y (by simp))).2.1]
    cases q : D.lt d y
    · rw [if_neg (by simp), if_neg (by simp)]
      exact ih fun x hx z hz => h x (by simp at hx ⊢; rcases hx with e | e <;> simp [e]) z (by simp at hz ⊢; rcases hz with e | e <;> simp [e])
    · rw [if_pos rfl, if_pos rfl]
      exact ih fun x hx z hz => h x (by simp at hx ⊢; rcases hx with e | e <;> simp [e]) z (by simp at hz ⊢; rcases hz with e | e <;> simp [e])
theorem row_alike {d : D} {ds : List D} (h : ∀ x ∈ d :: ds, ∀ y ∈ d :: ds, D.alk x y = true) : PySem.W.AlikeAll (d.py :: D.pys ds) := by
  have e : d.py :: D.pys ds = (d :: ds).map D.py := by rw [List.map_cons, pys_map]
  rw [e]
  refine ⟨fun x hx y hy => ?_, fun x hx => ?_⟩
  · obtain ⟨a, ma, rfl⟩ := List.mem_map.mp hx
    obtain ⟨b, mb, rfl⟩ := List.mem_map.mp hy
    exact (alk_py (h a ma b mb)).1
  · obtain ⟨a, ma, rfl⟩ := List.mem_map.mp hx
    exact (alk_py (h a ma a ma)).2.2.1
theorem row_depth {d : D} {ds : List D} (h : ∀ x ∈ d :: ds, ∀ y ∈ d :: ds, D.alk x y = true) : PyData.depthAll (d.py :: D.pys ds) ≤ 1 := by
  have : ∀ es : List D, (∀ x ∈ es, D.alk x x = true) → PyData.depthAll (D.pys es) ≤ 1 := by
    intro es
    induction es with
    | nil => intro _; simp [D.pys, PyData.depthAll]
    | cons e es ih =>
      intro q
      have h1 := (alk_py (q e (by simp))).2.2.2.1
      have h2 := ih fun x m => q x (by simp [m])
      simp only [D.pys, PyData.depthAll]
      omega
  exact this (d :: ds) fun x m => h x m x m
section
variable {X : Cx} {K : PySem.W.Frag} {cm : Cm} {pins : List (Addr × Obj)} {σ : L2.St} {H : Hp} {s : Shared}
/-- the best of a list or a tuple, told by its data -/
def rBest (K : PySem.W.Frag) (best : PyData → List PyData → PyData) : List V → Hp → VK → Prop := fun vs H Q => ∃ (a : Addr) (xs : List V) (d : PyData) (ds : List PyData), vs = [V.ref a] ∧ (SqL K H a xs ∨ SqT K H a xs) ∧ DpAll K H xs (d :: ds) ∧ PySem.W.AlikeAll (d :: ds) ∧ PyData.depthAll (d :: ds) ≤ 1 ∧ best d ds ∈ d :: ds ∧
  ∀ (i : Nat) (x : V), xs[i]? = some x → (d :: ds)[i]? = some (best d ds) → Q x H
theorem dpAll_get : ∀ {xs : List V} {ds : List PyData} {i : Nat} {x : V}, DpAll K H xs ds → xs[i]? = some x → ∃ d, ds[i]? = some d ∧ Dp K H x d
  | _, _, _, _, .nil, e => by simp at e
  | _, _, 0, _, .cons h _, e => by cases e; exact ⟨_, rfl, h⟩
  | _, _, i + 1, _, .cons _ t, e => by
    obtain ⟨d, e1, h⟩ := dpAll_get (i := i) t (by simpa using e)
    exact ⟨d, by simpa using e1, h⟩
theorem vals_back : ∀ {xs : List V} {us : List Value} {i : Nat} {u : Value}, Vals xs us → us[i]? = some u → ∃ x, xs[i]? = some x ∧ RelV x u
  | _, _, _, _, .nil, e => by simp at e
  | _, _, 0, _, .cons r _, e => by cases e; exact ⟨_, rfl, r⟩
  | _, _, i + 1, _, .cons _ t, e => by
    obtain ⟨x, e1, h⟩ := vals_back (i := i) t (by simpa using e)
    exact ⟨x, by simpa using e1, h⟩
theorem best_fin {Q : VK} {d b : PyData} {ds : List PyData} {xs : List V} {its : List Value} (I : Inv X pins σ H s) (rv : Vals xs its) (hd : DpAll X.K H xs (d :: ds)) (hal : PySem.W.AlikeAll (d :: ds)) (hm : b ∈ d :: ds) (q : ∀ (i : Nat) (x : V), xs[i]? = some x → (d :: ds)[i]? = some b → Q x H)
    (i : Nat) (v : Value) (h' : Heap) (tk : Nat) (bs : List Addr) (hi : its.toArray[i]? = some v) (hr : Reads h' v b bs) (hk : ∀ b o, s.heap.get? b = some o → h'.get? b = some o) : EP X pins σ Q v { s with heap := h', toks := tk } := by
  rw [List.getElem?_toArray] at hi
  obtain ⟨x, hx, rx⟩ := vals_back rv hi
  obtain ⟨e, he, hde⟩ := dpAll_get hd hx
  have I2 : Inv X pins σ H { s with heap := h', toks := tk } := I.kept hk
  obtain ⟨as, r2⟩ := Dp.reads I2 e x v hde rx
  have : e = b := PySem.W.alike_unique e b v as bs (hal.1 e (List.mem_of_getElem? he) b hm) r2 hr
  exact ⟨x, H, I2, rx, q i x hx (by rw [he, this])⟩
theorem cr_minD (hc : X.calm = true) (hu : X.A.units + 3 < cLine) : CallR X (.builtin "min") (rBest X.K PySem.W.minD) := by
  intro pins s σ H vs us Q I r h
  obtain ⟨a, xs, d, ds, rfl, hs, hd, hal, hdp, hm, q⟩ := h
  rw [Vals.ref1 r]
  rcases hs with hs | hs
  · obtain ⟨its, rv, hl, _⟩ := I.list hs
    obtain ⟨as, ra⟩ := Dp.readsAll I (d :: ds) xs its hd rv
    exact PySem.W.min_list_data (I.ok.hd hc) hl.isList ra hal (by omega) (fun i v h' tk bs hi hr hk => best_fin I rv hd hal hm q i v h' tk bs hi hr hk)
  · obtain ⟨its, rv, hl, _⟩ := I.tuple hs
    obtain ⟨as, ra⟩ := Dp.readsAll I (d :: ds) xs its hd rv
    exact PySem.W.min_tuple_data (I.ok.hd hc) hl ra hal (by omega) (fun i v h' tk bs hi hr hk => best_fin I rv hd hal hm q i v h' tk bs hi hr hk)
theorem cr_maxD (hc : X.calm = true) (hu : X.A.units + 3 < cLine) : CallR X (.builtin "max") (rBest X.K PySem.W.maxD) := by
  intro pins s σ H vs us Q I r h
  obtain ⟨a, xs, d, ds, rfl, hs, hd, hal, hdp, hm, q⟩ := h
  rw [Vals.ref1 r]
  rcases hs with hs | hs
  · obtain ⟨its, rv, hl, _⟩ := I.list hs
    obtain ⟨as, ra⟩ := Dp.readsAll I (d :: ds) xs its hd rv
    exact PySem.W.max_list_data (I.ok.hd hc) hl.isList ra hal (by omega) (fun i v h' tk bs hi hr hk => best_fin I rv hd hal hm q i v h' tk bs hi hr hk)
  · obtain ⟨its, rv, hl, _⟩ := I.tuple hs
    obtain ⟨as, ra⟩ := Dp.readsAll I (d :: ds) xs its hd rv
    exact PySem.W.max_tuple_data (I.ok.hd hc) hl ra hal (by omega) (fun i v h' tk bs hi hr hk => best_fin I rv hd hal hm q i v h' tk bs hi hr hk)
/-- min(xs), max(xs) -/
def cBest (best : D → List D → D) : List D → Option D
  | [.lst (d :: ds)] => if rowK d ds then some (best d ds) else none
  | [.tup (d :: ds)] => if rowK d ds then some (best d ds) else none
  | _ => none
theorem rc_best {bp : PyData → List PyData → PyData} {bd : D → List D → D} (hmem : ∀ d ds, bd d ds ∈ d :: ds) (hpy : ∀ {d : D} {ds : List D}, (∀ x ∈ d :: ds, ∀ y ∈ d :: ds, D.alk x y = true) → bp d.py (D.pys ds) = (bd d ds).py) : RC K cm (rBest K bp) (cBest bd) := by
  intro A H vs es dz Q hd hl hr e k
  have key : ∀ {v : V} {d : D} {ds : List D} {a : Addr} {xs : List V}, rowK d ds = true → v = .ref a → (SqL K H a xs ∨ SqT K H a xs) → RpL K cm A H xs (d :: ds) → (∀ x, Rp K cm A H x (bd d ds) → Q x H) → rBest K bp [v] H Q := fun {v d ds a xs} hk hv hsq rl kk => by
    subst hv
    obtain ⟨hall, hfl⟩ := rowK_all hk
    have epy : D.pys (d :: ds) = d.py :: D.pys ds := rfl
    refine ⟨a, xs, d.py, D.pys ds, rfl, hsq, by rw [← epy]; exact rl.dp hfl, row_alike hall, row_depth hall, ?_, fun i x hx hb => ?_⟩
    · rw [hpy hall, ← epy, pys_map]
      exact List.mem_map_of_mem (hmem d ds)
    · have hlx := rl.length
      have hil : i < (d :: ds).length := by have := (List.getElem?_eq_some_iff.mp hx).1; omega
      obtain ⟨v', e1, r1⟩ := rl.get (List.getElem?_eq_getElem hil)
      rw [hx] at e1
      cases e1
      rw [hpy hall, ← epy, pys_map, List.getElem?_map, List.getElem?_eq_getElem hil] at hb
      have e2 : (d :: ds)[i].py = (bd d ds).py := Option.some.inj hb
      have e3 := (alk_py (hall _ (List.getElem_mem hil) _ (hmem d ds))).2.2.2.2 e2
      rw [← e3] at kk
      exact kk x r1
  unfold cBest at e
  split at e
  · rename_i d ds
    split at e
    · rename_i hk
      cases e
      obtain ⟨v, rfl, r⟩ := hr.one
      obtain ⟨a, xs, rfl, hs, rl⟩ := r.ls
      exact key hk rfl (.inl hs) rl fun x rx => k x H (.refl H) rx
    · cases e
  · rename_i d ds
    split at e
    · rename_i hk
      cases e
      obtain ⟨v, rfl, r⟩ := hr.one
      obtain ⟨a, xs, rfl, hs, rl⟩ := r.tup
      exact key hk rfl (.inr hs) rl fun x rx => k x H (.refl H) rx
    · cases e
  · cases e
end
end G

set_option maxHeartbeats 2000000
/-! La45: either rule; x[::-1] of lists and texts. -/
namespace G
open PySem PySem.Spec L2 PyProof.Rows
def nOr (f g : Rho → Option (T × Rho)) : Rho → Option (T × Rho) := fun ρ => (f ρ).or (g ρ)
section
variable {X : Cx} {cm : Cm} {e : Expr} {pos : Pos}
theorem fn_or {f g : Rho → Option (T × Rho)} (h1 : FN X cm e f) (h2 : FN X cm e g) : FN X cm e (nOr f g) := (h1.or h2).imp fun σ H Q ⟨C, A, ρ, t, ρ', R, q, k⟩ => by
  unfold nOr at q
  cases e1 : f ρ with
  | some z => rw [e1] at q; cases q; exact .inl ⟨C, A, ρ, t, ρ', R, e1, k⟩
  | none => rw [e1] at q; exact .inr ⟨C, A, ρ, t, ρ', R, q, k⟩
def nRevL (f : Em) : Rho → Option (T × Rho) := fun ρ => (f ρ).bind fun p => (rd p.2 p.1).bind fun d => match d with
  | .lst ds => some (.ls ds.reverse, p.2)
  | _ => none
def eRevT (f : Em) : Em := fun ρ => (f ρ).bind fun p => match p.1 with
  | .val (.str s) => if s.length ≤ big then some (.val (.str s.reverse), p.2) else none
  | _ => none
theorem fn_revL {f : Em} {k : Nat} {p1 p2 p3 : Pos} (he : FE X cm e f) : FN X cm (.Subscript e (.Slice none none (some (.UnaryOp .USub (.Constant (.int 1) k p1) p2)) p3) pos) (nRevL f) := (pe_revL he).imp fun σ H Q ⟨C, A, ρ, t, ρ', R, q, kk⟩ => by
  unfold nRevL at q
  simp only [Option.bind_eq_some_iff] at q
  obtain ⟨⟨r, ρ1⟩, h1, d, h2, h3⟩ := q
  split at h3
  · rename_i ds
    cases h3
    refine ⟨C, A, ρ, r, _, R, h1, fun v H1 A1 l1 R1 w1 => ?_⟩
    obtain ⟨a, xs, rfl, hs, rl⟩ := (rd_ok R1 w1 h2).ls
    refine ⟨a, xs, rfl, hs, fun p hp => ?_⟩
    obtain ⟨l2, R2, hF⟩ := own1 (o := .lst xs.reverse) R1 hp
    exact kk _ _ _ [p] (l1.trans l2) R2 ⟨p, _, rfl, rfl, upd_same, rl.rev.later l2.l⟩ (by simp) hF
  · cases h3
theorem str_back (x : Str) : ((Builtin.Str.strSliceIndices none none (-1) x.length).filterMap (x.cps[·]?)).toArray = (x.cps.toList.reverse).toArray := by
  show ((sliceRange ((x.cps.size : Int) - 1) (-1) (-1)).filterMap (x.cps[·]?)).toArray = _
  rw [PySem.W.krv_sliceRange, PySem.W.krv_range, List.filterMap_reverse, PySem.W.krv_all]
def tRevT (te : TE) : TE := fun σ H Q => te σ H fun x H1 => ∃ z : Str, x = .str z ∧ z.length ≤ sizeLine ∧ Q (.str ⟨z.cps.toList.reverse.toArray⟩) H1
theorem pe_revT {te : TE} {k : Nat} {p1 p2 p3 : Pos} (hx : PE X e te) : PE X (.Subscript e (.Slice none none (some (.UnaryOp .USub (.Constant (.int 1) k p1) p2)) p3) pos) (tRevT te) := by
  have hm : PO X (some (.UnaryOp .USub (.Constant (.int 1) k p1) p2)) (tPart (tUn (rU fun i => .int (-i)) (tC (.int 1)))) := po_some (pe_un un_neg pe_int)
  refine ⟨fun pins s0 σ H0 Q J0 h0 => Subscript_ (thn (hx.run pins s0 σ H0 _ J0 h0) fun v sa ⟨x, Ha, Ja, ra, ⟨z, ez, hz, qz⟩⟩ => ?_)⟩
  subst ez
  obtain ⟨tz, rfl⟩ := ra
  refine wpAny_Slice (thn (po_none.run pins sa σ Ha (fun o Hn => o = none ∧ Hn = Ha) Ja ⟨rfl, rfl⟩) fun vl sb ⟨ol, Hb, Jb, gl, el, eb⟩ => ?_)
  subst el eb
  refine thn (po_none.run pins sb σ Hb (fun o Hn => o = none ∧ Hn = Hb) Jb ⟨rfl, rfl⟩) fun vu sc ⟨ou, Hc, Jc, gu, eu, ec⟩ => ?_
  subst eu ec
  refine thn (hm.run pins sc σ Hc (fun o Hn => o = some (-1) ∧ Hn = Hc) Jc ⟨1, rfl, -1, rfl, rfl, rfl⟩) fun vs sd ⟨os, Hd, Jd, gs, es, ed⟩ => ?_
  subst es ed
  obtain ⟨l1, rfl, q1⟩ := IsPart.raw gl
  obtain ⟨l2, rfl, q2⟩ := IsPart.raw gu
  obtain ⟨l3, rfl, q3⟩ := IsPart.raw gs
  have Je : Inv X pins σ Hd { sd with heap := sd.heap.push { cls := .type "slice", data := .fields #[partValue l1, partValue l2, partValue l3] } } := Jd.kept (t' := sd.toks) fun b ob q => Heap.get?_push_of_some _ q
  show wpAny (model X.prog X.w) X.A (subscriptTail e (.Slice none none (some (.UnaryOp .USub (.Constant (.int 1) k p1) p2)) p3) (.str z tz) (.ref sd.heap.objs.size)) (EP X pins σ Q) X.xe { sd with heap := sd.heap.push { cls := .type "slice", data := .fields #[partValue l1, partValue l2, partValue l3] } }
  refine tail_any (ops := [.str z tz, .ref sd.heap.objs.size]) (typeIs_str _ _ _) F.slot_str_getitem.lookup ?_ (by with_unfolding_all rfl)
  refine wpAny_getItem_str_slice (l := l1) (u := l2) (st := l3) ⟨_, Heap.get?_push_size _ rfl, rfl, rfl⟩ (by rw [q3]; rfl) ?_
  unfold sliceMade slicePicked
  rw [q1, q2, q3]
  show Made.post (if ((-1 : Int) == 1 && _) = true then _ else Made.str ⟨((Builtin.Str.strSliceIndices none none (-1) z.length).filterMap (z.cps[·]?)).toArray⟩) (EP X pins σ Q) _
  rw [if_neg (by simp), str_back]
  refine ⟨?_, .str _, Hd, Je.tok _, ⟨_, rfl⟩, qz⟩
  show (Array.size _) ≤ _
  rw [List.size_toArray, List.length_reverse, Array.length_toList]
  exact hz
theorem fe_revT {f : Em} {k : Nat} {p1 p2 p3 : Pos} (he : FE X cm e f) : FE X cm (.Subscript e (.Slice none none (some (.UnaryOp .USub (.Constant (.int 1) k p1) p2)) p3) pos) (eRevT f) := (pe_revT he).imp fun σ H Q ⟨C, A, ρ, t, ρ', R, q, kk⟩ => by
  unfold eRevT at q
  simp only [Option.bind_eq_some_iff] at q
  obtain ⟨⟨r, ρ1⟩, h1, h3⟩ := q
  dsimp only at h3
  split at h3
  · rename_i s
    split at h3
    · rename_i hz
      cases h3
      refine ⟨C, A, ρ, _, _, R, h1, fun v H1 A1 l1 R1 w1 => ?_⟩
      have w1' : Rp X.K cm A1 H1 v (.str s) := w1
      cases w1'
      refine ⟨S s, rfl, by rw [S_len]; exact big_le hz, ?_⟩
      rw [S_cps]
      exact kk _ _ _ l1 R1 (.str s.reverse)
    · cases h3
  · cases h3
end
end G

set_option maxHeartbeats 2000000
/-! La46: [.. for k, v in d.items() if ..], displays with a star: *a list, *d.values(). -/
namespace G
open PySem PySem.Spec L2 PyProof.Rows
def itemsD (kvs : List (DK × D)) : List D := kvs.map fun kv => .tup [kv.1.d, kv.2]
def iItm (i : Nat) : Im := fun ρ => (dicS i ρ).map fun p => (itemsD p.1, p.2)
theorem it_items {K : PySem.W.Frag} {cm : Cm} {d : Addr} {od : Obj} {ks : List (Key × V)} {kvs : List (DK × D)} : ItOk K cm (Iti d od ks) (fun A H => H d = some (.frz od (.dK ks)) ∧ ¬ A d ∧ RpK K cm A H ks kvs) (itemsD kvs) where
  stay := fun A H A' H' ⟨h, n, r⟩ l => ⟨l.st _ _ h pl_frz.1 n, (l.rd (.inl h) n).2, r.later l⟩
  go := fun A H i ⟨h, _, r⟩ q => ⟨h, by rw [r.length]; simpa [itemsD] using q⟩
  yld := fun A H i x H' e ⟨h, _, r⟩ hdom q hy => by
    obtain ⟨T, k, v, e1, rfl, hT, rfl⟩ := hy
    simp only [itemsD, List.getElem?_map, Option.map_eq_some_iff] at q
    obtain ⟨⟨k', d'⟩, q1, rfl⟩ := q
    obtain ⟨v', e2, rv⟩ := r.at q1
    rw [e1] at e2; cases e2
    exact ⟨same_new hT, new_tup hdom hT (.cons (kV_d k') (.one rv))⟩
  stop := fun A H i ⟨h, _, r⟩ q => ⟨h, by rw [r.length]; simpa [itemsD] using q⟩
section
variable {X : Cx} {cm : Cm} {pos tpos apos cpos : Pos} {elt e c : Expr} {ifs elts : List Expr} {kk : Nat}
theorem fn_lcI {i : Nat} {own : List (Str × Nat)} {scope : Scope} {is : List Nat} {h : D → Rho → Option Rho} {g : Bm} {el : Em} (hc : X.calm = true) (hN : X.N.Nodup) (ho : PE X e (tVar i)) (ok : BlkOk X.N X.env.scope scope own)
    (hg : ∀ (s : Shared) (H : Hp) (C : Addr) (cl : List (Str × Addr)) (fp : List Addr), FG (X.blk s H scope (compEnvC scope cl C X.env) fp) cm (.Tuple elts kk tpos) is h) (ht : ∀ (s : Shared) (H : Hp) (C : Addr) (cl : List (Str × Addr)) (fp : List Addr), FTs (X.blk s H scope (compEnvC scope cl C X.env) fp) cm ifs g)
    (he : ∀ (s : Shared) (H : Hp) (C : Addr) (cl : List (Str × Addr)) (fp : List Addr), FE (X.blk s H scope (compEnvC scope cl C X.env) fp) cm elt el) (hsub : ∀ i ∈ is, i ∈ own.map (·.2))
    (hbase : attributeBase e "items" X.env (eval e X.env) = eval e X.env := by rfl) (hline : (apos.endLine == cpos.line) = true := by rfl) (hs : ∀ x, foldedSetIterable (.Call (.Attribute e "items" apos) [] [] cpos) X.env x = pure x := by intro _; rfl) :
    FN X cm (.ListComp elt [⟨.Tuple elts kk tpos, .Call (.Attribute e "items" apos) [] [] cpos, ifs, 0⟩] scope pos) (nLc (own.map (·.2)) (iItm i) h g el) :=
  ((pe_lock (pe_lc hc hN (pi_items ho hbase hline) ok hg ht he hs)).or (pe_lc hc hN (pi_items ho hbase hline) ok hg ht he hs)).imp fun σ H Q ⟨C, A, ρ, t, ρ', R, q, k⟩ => by
    unfold nLc iItm at q
    simp only [Option.bind_eq_some_iff, Option.map_eq_some_iff] at q
    obtain ⟨⟨ds, ρ1⟩, ⟨⟨kvs, ρ1'⟩, h0, h0'⟩, q⟩ := q
    cases h0'
    dsimp only at q
    split at q
    rotate_left
    · cases q
    rename_i hbig
    simp only [Option.bind_eq_some_iff, Option.map_eq_some_iff] at q
    obtain ⟨ρw, h2, ⟨all, ρ2⟩, h3, h4⟩ := q
    cases h4
    obtain ⟨A1, d, ks, l1, R1, hv, hd, hn, hk⟩ := dicS_ok R h0
    rcases hd with hd | ⟨od, hd⟩
    · refine .inl ⟨d, .dK ks, hd, trivial, fun od => ?_⟩
      have s : Sw d ks H (upd H d (.frz od (.dK ks))) := ⟨.inl hd, .inr ⟨od, upd_same⟩, fun x q => upd_ne q⟩
      have R2 := R1.sw (o := .frz od (.dK ks)) s hn
      refine tLc_core (C := C.sw d (.frz od (.dK ks))) (A := A1) hsub (fun R' hR => ⟨_, hv, d, od, ks, rfl, upd_same, hR _ _ A1 _ (.refl _ _) R2 it_items ⟨upd_same, hn, hk.sw s⟩⟩) hbig h2 h3 fun v H' A' F l2 R3 rt hnd hF => ?_
      have hd' : H' d = some (.frz od (.dK ks)) := l2.l.st _ _ upd_same pl_frz.1 hn
      have hn' : ¬ A' d := (l2.l.rd (.inl upd_same) hn).2
      have s' : Sw d ks H' (upd H' d (.dK ks)) := ⟨.inr ⟨od, hd'⟩, .inl upd_same, fun x q => upd_ne q⟩
      refine ⟨hd', k v _ A' F (l1.trans (Lt.unsw (ks := ks) hd hn (fun z => hn (R1.out d z)) l2)) (R3.unsw s' hn' fun x e tn np => ?_) (rt.sw s' fun m => hn' (hF d m).2.1) hnd fun a m => ⟨sw_none.mp (hF a m).1, (hF a m).2⟩⟩
      have := R1.fr d x e tn np
      rw [hd] at this; cases this; rfl
    · refine .inr (tLc_core (C := C) (A := A1) hsub (fun R' hR => ⟨_, hv, d, od, ks, rfl, hd, hR _ _ A1 _ (.refl _ _) R1 it_items ⟨hd, hn, hk⟩⟩) hbig h2 h3 fun v H' A' F l2 R3 rt hnd hF => k v H' A' F (l1.trans l2) R3 rt hnd hF)
end

/-! ### *e in a display -/
def aStar (f : Em) (g : Am) : Am := fun ρ => (f ρ).bind fun p => (rd p.2 p.1).bind fun d => match d with
  | .tup ds => (g p.2).map fun q => (ds.map RV.val ++ q.1, q.2)
  | .lst ds => (g p.2).map fun q => (ds.map RV.val ++ q.1, q.2)
  | _ => none
section
variable {X : Cx} {cm : Cm} {e : Expr} {es : List Expr} {p apos cpos : Pos}
theorem rrvs_val {K : PySem.W.Frag} {A : AS} {H : Hp} {σ : L2.St} : ∀ {vs : List V} {ds : List D}, RpL K cm A H vs ds → RRVs K cm A H σ vs (ds.map RV.val)
  | _, _, .nil => .nil
  | _, _, .cons h r => .cons h (rrvs_val r)
theorem rrvs_app {K : PySem.W.Frag} {A : AS} {H : Hp} {σ : L2.St} : ∀ {vs ws : List V} {ds es : List RV}, RRVs K cm A H σ vs ds → RRVs K cm A H σ ws es → RRVs K cm A H σ (vs ++ ws) (ds ++ es)
  | _, _, _, _, .nil, h => h
  | _, _, _, _, .cons h r, h2 => .cons h (rrvs_app r h2)
theorem fa_star {f : Em} {g : Am} (ha : FE X cm e f) (hr : FA X cm es g) (hs : starEach (.Starred e p :: es) X.env = (true, eval e X.env) :: starEach es X.env := by rfl) : FA X cm (.Starred e p :: es) (aStar f g) :=
  (StX.pa_star ha hr hs).imp fun σ H Q ⟨C, A, ρ, t, ρ', R, q, k⟩ => by
    unfold aStar at q
    simp only [Option.bind_eq_some_iff] at q
    obtain ⟨⟨r, ρ1⟩, h1, d, h2, q⟩ := q
    dsimp only at q
    refine ⟨C, A, ρ, r, ρ1, R, h1, fun v1 H1 A1 l1 R1 w1 => ?_⟩
    have ro := rd_ok R1 w1 h2
    split at q
    · rw [Option.map_eq_some_iff] at q
      obtain ⟨⟨rs, ρ2⟩, h3, h4⟩ := q
      cases h4
      obtain ⟨a, xs, rfl, hs, rl⟩ := ro.tup
      exact ⟨_, _, rfl, .inl hs, C, A1, ρ1, rs, _, R1, h3, fun vs H2 A2 l2 R2 w2 => k _ H2 A2 (l1.trans l2) R2 (rrvs_app (rrvs_val (rl.later l2.l)) w2)⟩
    · rw [Option.map_eq_some_iff] at q
      obtain ⟨⟨rs, ρ2⟩, h3, h4⟩ := q
      cases h4
      obtain ⟨a, xs, rfl, hs, rl⟩ := ro.ls
      exact ⟨_, _, rfl, .inr hs, C, A1, ρ1, rs, _, R1, h3, fun vs H2 A2 l2 R2 w2 => k _ H2 A2 (l1.trans l2) R2 (rrvs_app (rrvs_val (rl.later l2.l)) w2)⟩
    · cases q

def tStarV (te : TE) (t : TA) : TA := fun σ H Q => te σ H fun x H1 => ∃ d ks, x = V.ref d ∧ Rd H1 d (.dK ks) ∧ t σ H1 fun ys H2 => Q (ks.map (·.2) ++ ys) H2
theorem kv_vals {kvs : List (Key × V)} {vs : List (Key × Value)} (kv : KV kvs vs) : Vals (kvs.map (·.2)) (vs.map (·.2)) := by
  unfold KV at kv
  induction kv with
  | nil => exact .nil
  | cons h _ ih => exact .cons h.2 ih
theorem kvals_at {kvs : List (Key × V)} {vs : List (Key × Value)} (kv : KV kvs vs) (acc : List Value) (hl : acc.length = vs.length) (h : ∀ (j : Nat) (v : Value), acc[j]? = some v → ∃ k, vs[j]? = some (k, v)) : Vals (kvs.map (·.2)) acc := by
  have e : acc = vs.map (·.2) := PySem.W.kdl_vals_eq acc hl h
  subst e
  exact kv_vals kv
theorem pa_starV {te : TE} {t : TA} {pos1 : Pos} (hcalm : X.calm = true) (he : PE X e te) (hr : PA X es t) (hbase : attributeBase e "values" X.env (eval e X.env) = eval e X.env := by rfl) (hline : (apos.endLine == cpos.line) = true := by rfl)
    (hs : starEach (.Starred (.Call (.Attribute e "values" apos) [] [] cpos) pos1 :: es) X.env = (true, eval (.Call (.Attribute e "values" apos) [] [] cpos) X.env) :: starEach es X.env := by rfl) :
    PA X (.Starred (.Call (.Attribute e "values" apos) [] [] cpos) pos1 :: es) (tStarV te t) := by
  refine ⟨fun pos pins s σ H Q I h => ?_⟩
  refine PySem.W.items_star ?_ hs
  refine wpAny_Call_method (T := "dict") (id := "dict.values") hbase rfl hline F.plainAttrs_dict F.slot_dict_values F.type_dict_values (thn (he.run pins s σ H _ I h) fun u s1 ⟨x, H1, I1, rx, d, kvs, ex, hd, q⟩ => ?_)
  subst ex
  obtain rfl : u = Value.ref d := rx
  obtain ⟨z, lo, vs, rel, dd⟩ := dk_rd I1.hok hd
  obtain ⟨ep, hm⟩ := dd.dictAt
  have hl : kvs.length = vs.length := rel.length
  refine ⟨hm.dictOf.typeIs, hm.dictOf.mapOf.noDict, ?_⟩
  have I2 : Inv X pins σ H1 { s1 with heap := s1.heap.push { cls := .type "dict_values", data := .fields #[.ref d] } } := I1.kept (t' := s1.toks) fun b ob q => Heap.get?_push_of_some _ q
  show wpAny _ _ (callWith cpos (.builtin "dict.values") [.ref d] [] []) _ X.xe s1
  refine method_meetsIn F.slot_dict_values F.entry_dict_values rfl (PySem.evalArgs_none ⟨rfl, hm.dictOf.typeIs, F.args_dict_values_1 _, _, meets_dict_values (mixKind X.prog X.w) d lo, ⟨vs, hm.dictOf⟩, ?_⟩)
  have hview : (s1.heap.push { cls := .type "dict_values", data := .fields #[.ref d] }).IsValuesView s1.heap.objs.size d := ⟨_, Heap.get?_push_size _ rfl, rfl, rfl⟩
  have zz : wpAny (model X.prog X.w) X.A (collect (.ref s1.heap.objs.size)) (fun here s₂ => wpAny (model X.prog X.w) X.A (spliced (backTo pos (starEach es X.env))) (fun vs s₃ => ∃ vs' H', Inv X pins σ H' s₃ ∧ Vals vs' (here ++ vs) ∧ Q vs' H') X.xe s₂) X.xe { s1 with heap := s1.heap.push { cls := .type "dict_values", data := .fields #[.ref d] } } := by
    refine PySem.W.kdu_collect (A := X.A) (PySem.W.kdl_values (knd := mixKind X.prog X.w) (kvs := vs) (ep := ep)) (I1.ok.hd hcalm) ⟨hview, hm.push _⟩ (by rw [← hl]; exact z) fun h' tk acc hk hacc => ?_
    have hv : Vals (kvs.map (·.2)) acc.toList := kvals_at rel _ (by rw [Array.length_toList]; exact hacc.1) fun j v e => hacc.2 j v (by rw [← Array.getElem?_toList]; exact e)
    have I3 : Inv X pins σ H1 { s1 with heap := h', toks := tk } := I2.kept hk
    exact thn (hr.run pos pins _ σ H1 _ I3 q) fun ws s3 ⟨vs', H3, I4, r3, q3⟩ => ⟨_, H3, I4, hv.append r3, q3⟩
  show PySem.W.StarOf _ _ _ _ _ _
  unfold PySem.W.StarOf notIterableAtAll
  exact wpAny_bind (wpAny_specialOf hview.typeIs F.slot_dict_values_iter.lookup (wpAny_pure ⟨rfl, zz⟩))
def aStarV (i : Nat) (g : Am) : Am := fun ρ => (dicS i ρ).bind fun p => (g p.2).map fun q => (p.1.map (fun kv => RV.val kv.2) ++ q.1, q.2)
theorem rrvs_valK {K : PySem.W.Frag} {A : AS} {H : Hp} {σ : L2.St} : ∀ {ks : List (Key × V)} {kvs : List (DK × D)}, RpK K cm A H ks kvs → RRVs K cm A H σ (ks.map (·.2)) (kvs.map fun kv => RV.val kv.2)
  | _, _, .nil => .nil
  | _, _, .cons h r => .cons h (rrvs_valK r)
theorem fa_starV {i : Nat} {g : Am} {pos1 : Pos} (hcalm : X.calm = true) (he : PE X e (tVar i)) (hr : FA X cm es g) (hbase : attributeBase e "values" X.env (eval e X.env) = eval e X.env := by rfl) (hline : (apos.endLine == cpos.line) = true := by rfl)
    (hs : starEach (.Starred (.Call (.Attribute e "values" apos) [] [] cpos) pos1 :: es) X.env = (true, eval (.Call (.Attribute e "values" apos) [] [] cpos) X.env) :: starEach es X.env := by rfl) :
    FA X cm (.Starred (.Call (.Attribute e "values" apos) [] [] cpos) pos1 :: es) (aStarV i g) :=
  (pa_starV hcalm he hr hbase hline hs).imp fun σ H Q ⟨C, A, ρ, t, ρ', R, q, k⟩ => by
    unfold aStarV at q
    simp only [Option.bind_eq_some_iff, Option.map_eq_some_iff] at q
    obtain ⟨⟨kvs, ρ1⟩, h0, ⟨rs, ρ2⟩, h3, h4⟩ := q
    cases h4
    obtain ⟨A1, d, ks, l1, R1, hv, hd, hn, hk⟩ := dicS_ok R h0
    exact ⟨_, hv, d, ks, rfl, hd, C, A1, ρ1, rs, _, R1, h3, fun vs H2 A2 l2 R2 w2 => k _ H2 A2 (l1.trans l2) R2 (rrvs_app (rrvs_valK (hk.later l2.l)) w2)⟩
end
end G

set_option maxHeartbeats 2000000
/-! La47: len(set(tuple of ints)). -/
namespace G
open PySem PySem.Spec L2 PyProof.Rows
def dis : List Int → List Int
  | [] => []
  | x :: r => if x ∈ dis r then dis r else x :: dis r
theorem dis_nd : ∀ l : List Int, (dis l).Nodup
  | [] => List.nodup_nil
  | x :: r => by
    unfold dis
    split
    · exact dis_nd r
    · rename_i h
      exact List.nodup_cons.mpr ⟨h, dis_nd r⟩
theorem dis_mem : ∀ (l : List Int) (y : Int), y ∈ dis l ↔ y ∈ l
  | [], _ => Iff.rfl
  | x :: r, y => by
    unfold dis
    split
    · rename_i h
      rw [dis_mem r y, List.mem_cons]
      refine ⟨.inr, fun z => z.elim (fun e => ?_) id⟩
      rw [e]; exact (dis_mem r x).mp h
    · rw [List.mem_cons, List.mem_cons, dis_mem r y]
theorem dis_len {l m : List Int} (n : m.Nodup) (h : ∀ k, k ∈ m ↔ k ∈ l) : m.length = (dis l).length :=
  ((List.perm_ext_iff_of_nodup n (dis_nd l)).mpr fun k => (h k).trans (dis_mem l k).symm).length_eq
section
variable {X : Cx} {cm : Cm}
def tLenSetT (K : PySem.W.Frag) (ta : TE) : TE := fun σ H Q => ta σ H fun x H1 => ∃ (l : Addr) (ns : List Int), x = V.ref l ∧ SqT K H1 l (ns.map V.int) ∧ ns.length < 64 ∧ Q (.int (dis ns).length) H1
theorem pe_lenSetT {a : Expr} {ta : TE} {p p2 q pos : Pos} (hc : X.calm = true) (hg : Gl X "len") (hm : X.mg "len" = none) (hg2 : Gl X "set") (hm2 : X.mg "set" = none) (ha : PE X a ta)
    (na : starEach [a] X.env = (false, eval a X.env) :: starEach [] X.env := by rfl) : PE X (.Call (.Name "len" p) [.Call (.Name "set" p2) [a] [] q] [] pos) (tLenSetT X.K ta) := by
  refine ⟨fun pins s σ H Q I h => ?_⟩
  refine Call_ (ld_blt I hg hm PySem.boot_len ?_)
  refine PyProof.Rows.callWith_builtin1 (PyProof.Rows.args_cons ?_ rfl) rfl rfl
  refine Call_ (ld_blt I hg2 hm2 PyProof.Rows.boot_set ?_)
  refine PyProof.Rows.callWith_type1 (PyProof.Rows.args_cons (thn (ha.run pins s σ H _ I h) fun v s1 ⟨x, H1, I1, r1, q1⟩ => PyProof.Rows.args_nil ?_) na) na rfl
  obtain ⟨l, ns, rfl, hq, h1, q1⟩ := q1
  cases r1
  obtain ⟨its, r, pl, hz⟩ := I1.tuple hq
  refine call_set_tupI ns (I1.ok.hd hc) pl (by simpa using r.ints) (by unfold scanBound; omega) fun h' tk c hS hcl hk => ?_
  refine PyProof.Rows.args_nil ?_
  obtain ⟨o, es, ep, t, ho, hex, hd, g, nd, hmem, hb, hf, hn, _⟩ := hS
  have I2 : Inv X pins σ H1 { s1 with heap := h', toks := tk } := I1.kept hk
  have e1 : es.size = (dis ns).length := by
    have := dis_len (l := ns) nd fun k => (hmem k).symm.trans (by simp)
    rw [List.length_map, Array.length_toList] at this
    exact this
  refine call_len_set ho hex hd hf (by rw [hn]; omega) ⟨.int (dis ns).length, H1, I2.tok _, ⟨_, by rw [e1]⟩, q1⟩
def eLenSetT (f : Em) : Em := fun ρ => (f ρ).bind fun p => (rd p.2 p.1).bind fun d => match d with
  | .tup ds => (intL ds).bind fun ns => if ns.length < 64 then some (.val (.int (dis ns).length), p.2) else none
  | _ => none
theorem fe_lenSetT {f : Em} {a : Expr} {p p2 q pos : Pos} (hc : X.calm = true) (hg : Gl X "len") (hm : X.mg "len" = none) (hg2 : Gl X "set") (hm2 : X.mg "set" = none) (ha : FE X cm a f)
    (na : starEach [a] X.env = (false, eval a X.env) :: starEach [] X.env := by rfl) : FE X cm (.Call (.Name "len" p) [.Call (.Name "set" p2) [a] [] q] [] pos) (eLenSetT f) :=
  (pe_lenSetT hc hg hm hg2 hm2 ha na).imp fun σ H Q ⟨C, A, ρ, t, ρ', R, q, kk⟩ => by
  unfold eLenSetT at q
  simp only [Option.bind_eq_some_iff] at q
  obtain ⟨⟨r, ρ1⟩, h1, d, h2, h3⟩ := q
  dsimp only at h3
  split at h3
  · rename_i ds
    rw [Option.bind_eq_some_iff] at h3
    obtain ⟨ns, e1, h3⟩ := h3
    split at h3
    · rename_i hz
      cases h3
      refine ⟨C, A, ρ, r, _, R, h1, fun v H1 A1 l1 R1 w1 => ?_⟩
      obtain ⟨a, xs, rfl, hs, rl⟩ := (rd_ok R1 w1 h2).tup
      have e2 := rl.intL e1
      subst e2
      exact ⟨a, ns, rfl, hs, hz, kk _ _ _ l1 R1 (.int _)⟩
    · cases h3
  · cases h3
end
end G

set_option maxHeartbeats 2000000
/-! La48: defs that make lambdas: their code objects; the end with tables. -/
namespace G
open PySem PySem.Spec L2 LamX PyProof.Rows
section
variable {P : Program} {w : World} {K : PySem.W.Frag} {mg : Str → Option Value} {base : Heap} {cm : Cm}
theorem fun_okT {x qual : Str} {st : Stmt} {f : Addr} {fd : FuncData} {N ps : List Str} {k : Nat} {sp : Sp} (F : Fun K x qual st f fd) (S : FnScope N ps (defScope st)) (len : ∀ vs H Q E, sp vs H Q E → vs.length = ps.length)
    (hbody : ∀ (A : Around) (outer : List Env) (s : Shared) (H : Hp) (vs : List V) (Q : VK) (E : XK), Room k (A.deeper (envOfC qual (defScope st) s.heap.objs.size f fd.code)) → sp vs H Q E →
      ∃ t, PSs (cxOf CX0 P w K mg base N qual (defScope st) f fd.code A outer s H E).nox (defBody st) t ∧ t { nx := fun _ H' => Q .non H', rt := Q } (start N vs) H) : FnOk P w K mg base CX0 (k + 1) f fd ps sp := by
  obtain ⟨oc, od, kV, doc, pm, an, cdv, ct, osl, rfl, lk, hcd⟩ := F.ex
  refine fn_of lk hcd S len fun A outer s H vs Q E hr hsp => ?_
  obtain ⟨t, h, q⟩ := hbody A outer s H vs Q E hr hsp
  exact ⟨t, h.nox, q⟩
theorem fd_okT {x qual : Str} {st : Stmt} {f : Addr} {fd : FuncData} {N ps : List Str} {k : Nat} {g : Sm} (F : Fun K x qual st f fd) (S : FnScope N ps (defScope st))
    (hb : ∀ (A : Around) (outer : List Env) (s : Shared) (H : Hp) (E : XK), Room k (A.deeper (envOfC qual (defScope st) s.heap.objs.size f fd.code)) → FSs (cxOf CX0 P w K mg base N qual (defScope st) f fd.code A outer s H E).nox cm (defBody st) g) :
    FnG P w K mg base cm (k + 1) f fd ps (runD (N.length - ps.length) g) := by
  refine fun_okT F S (fun vs H Q E h => h.1) fun A outer s H vs Q E hr ⟨hl, Pw, A', ss, t, ss', R, q, kk⟩ => ⟨_, hb A outer s H E hr, ?_⟩
  unfold runD at q
  rw [Option.bind_eq_some_iff] at q
  obtain ⟨o, q1, q2⟩ := q
  have hs : ss.length = vs.length := by have := R.len; simpa using this.symm
  have R0 := R.ext (N.length - vs.length)
  rw [← hl] at q1
  refine ⟨_, A', _, o, R0, q1, ?_⟩
  cases o with
  | nx ρ =>
    cases q2
    exact fun σ1 H1 A1 l1 R1 => kk _ H1 A1 [] _ l1 (R1.take ss.length) (RT.pure .non) .nil fun a m => nomatch m
  | rt t' ρ =>
    cases q2
    exact fun v σ1 H1 A1 F l1 R1 rt hn hF => kk v H1 A1 F _ l1 (R1.take ss.length) rt hn hF
  | bk ρ => cases q2
  | ct ρ => cases q2
/-- a def as the top wrote it, its code object at c with the table at P -/
theorem dn_mkC {h : Heap} (X : K.In h) (G : h.Ns mainGlobals mg) {x : Str} {st : Stmt} {ps : List Str} {f : Addr} {oc : Value} {od an : Option Addr} {osl : Array (Option Value)} {kV doc pm ct : Value} {c P : Addr}
    (a : PySem.W.nsIn K mainGlobals x = some (some (.ref f))) (l : K.lookup f = some ⟨oc, od, .func (PySem.W.fnOf x x (defArgs st) (defBody st) (defScope st) .none kV doc pm an (.ref c) ct), osl⟩) (cc : PySem.W.codeIn K (.ref c) x = true) (k : PySem.W.keepIn K (.ref f) = true)
    (b : ∀ (kV doc pm : Value) (an : Option Addr) (cdv ct : Value) (us : List Value), us.length = ps.length → bindArgs (PySem.W.fnOf x x (defArgs st) (defBody st) (defScope st) .none kV doc pm an cdv ct) ⟨us, []⟩ = pure (ps.zip us))
    (hP : PySem.W.codeHdIn K c P = true) : ∃ f fd c, Dn K mg x st ps f fd ∧ fd.code = .ref c ∧ PySem.W.codeHdIn K c P = true := ⟨f, _, c, ⟨fun_mk l cc k, PySem.W.mg_of X G a, b _ _ _ _ _ _⟩, rfl, hP⟩
/-- the end, with tables -/
theorem law_atS {l : PySem.W.OpenLaw} {n k : Nat} {x : Str} {fa : Addr} {fd : FuncData} {h : Heap} {m : Rho → Option (T × Rho)} {ts : List Addr} (cs : List (Addr × Addr)) (hT : ∀ P ∈ ts, h.get? P = some (PySem.W.tabObj #[])) (KX : K.In h)
    (hts : ∀ p ∈ cs, p.2 ∈ ts) (hK : ∀ p ∈ cs, K.lookup p.2 = none) (hcd : ∀ p ∈ cs, PySem.W.codeHdIn K p.1 p.2 = true) (hcm : ∀ q ∈ cm.T, q.1 ∈ cs.map (·.2)) (bb : ∀ (s : Shared) (u : Value), BindsTo s fd ⟨[u], []⟩ [(x, u)])
    (hlaw : ∀ ns : List Int, ns.length ≤ n → (m [.v (.p (.lst (ns.map D.int)))]).map (·.1) = some (.p (.bl true)))
    (F : ∀ base : Heap, (∀ p ∈ cs, TabB base mg p.1 p.2) → FnOk l.prog w K mg base CX0 k fa fd [x] (spG K cm 1 m)) : LawAtS l w K CX0 k n x mg fa h :=
  ⟨fd, cs, spG K cm 1 m, fun p hp => hT _ (hts p hp), hK, fun p hp => PySem.W.codeHd_of_K KX (hcd p hp), bb, fun H a ns hl _ hH hS => law_sp hS (fun q hq => by
    obtain ⟨p, hp, e⟩ := List.mem_map.mp (hcm q hq)
    have := hH p hp
    rw [e] at this
    exact TabS.nil this) (hlaw ns hl) _, fun base _ _ hTB => F base hTB⟩
end
end G

set_option maxHeartbeats 2000000
/-! La49: name = [.. for .. in a dict], on one line. -/
namespace G
open PySem PySem.Spec L2 PyProof.Rows
section
variable {X : Cx} {cm : Cm} {pos tpos apos cpos spos py : Pos} {elt e c tg : Expr} {ifs elts : List Expr} {kk : Nat}
theorem lcI_core {K : PySem.W.Frag} {i : Nat} {own is : List Nat} {h : D → Rho → Option Rho} {g : Bm} {el : Em} {σ : L2.St} {H : Hp} {Q : VK} (hsub : ∀ i ∈ is, i ∈ own) (hh : tN K cm (nLc own (iItm i) h g el) σ H Q) :
    tLockE (tLc (iItems (tVar i)) (tG K cm is h) (tT K cm g) (tE K cm el) own) σ H Q ∨ tLc (iItems (tVar i)) (tG K cm is h) (tT K cm g) (tE K cm el) own σ H Q := by
    obtain ⟨C, A, ρ, t, ρ', R, q, k⟩ := hh
    unfold nLc iItm at q
    simp only [Option.bind_eq_some_iff, Option.map_eq_some_iff] at q
    obtain ⟨⟨ds, ρ1⟩, ⟨⟨kvs, ρ1'⟩, h0, h0'⟩, q⟩ := q
    cases h0'
    dsimp only at q
    split at q
    rotate_left
    · cases q
    rename_i hbig
    simp only [Option.bind_eq_some_iff, Option.map_eq_some_iff] at q
    obtain ⟨ρw, h2, ⟨all, ρ2⟩, h3, h4⟩ := q
    cases h4
    obtain ⟨A1, d, ks, l1, R1, hv, hd, hn, hk⟩ := dicS_ok R h0
    rcases hd with hd | ⟨od, hd⟩
    · refine .inl ⟨d, .dK ks, hd, trivial, fun od => ?_⟩
      have s : Sw d ks H (upd H d (.frz od (.dK ks))) := ⟨.inl hd, .inr ⟨od, upd_same⟩, fun x q => upd_ne q⟩
      have R2 := R1.sw (o := .frz od (.dK ks)) s hn
      refine tLc_core (C := C.sw d (.frz od (.dK ks))) (A := A1) hsub (fun R' hR => ⟨_, hv, d, od, ks, rfl, upd_same, hR _ _ A1 _ (.refl _ _) R2 it_items ⟨upd_same, hn, hk.sw s⟩⟩) hbig h2 h3 fun v H' A' F l2 R3 rt hnd hF => ?_
      have hd' : H' d = some (.frz od (.dK ks)) := l2.l.st _ _ upd_same pl_frz.1 hn
      have hn' : ¬ A' d := (l2.l.rd (.inl upd_same) hn).2
      have s' : Sw d ks H' (upd H' d (.dK ks)) := ⟨.inr ⟨od, hd'⟩, .inl upd_same, fun x q => upd_ne q⟩
      refine ⟨hd', k v _ A' F (l1.trans (Lt.unsw (ks := ks) hd hn (fun z => hn (R1.out d z)) l2)) (R3.unsw s' hn' fun x e tn np => ?_) (rt.sw s' fun m => hn' (hF d m).2.1) hnd fun a m => ⟨sw_none.mp (hF a m).1, (hF a m).2⟩⟩
      have := R1.fr d x e tn np
      rw [hd] at this; cases this; rfl
    · refine .inr (tLc_core (C := C) (A := A1) hsub (fun R' hR => ⟨_, hv, d, od, ks, rfl, hd, hR _ _ A1 _ (.refl _ _) R1 it_items ⟨hd, hn, hk⟩⟩) hbig h2 h3 fun v H' A' F l2 R3 rt hnd hF => k v H' A' F (l1.trans l2) R3 rt hnd hF)
theorem lcK_core {K : PySem.W.Frag} {i : Nat} {own is : List Nat} {h : D → Rho → Option Rho} {g : Bm} {el : Em} {σ : L2.St} {H : Hp} {Q : VK} (hsub : ∀ i ∈ is, i ∈ own) (hh : tN K cm (nLc own (iKey i) h g el) σ H Q) :
    tLockE (tLc (iKeys (tVar i)) (tG K cm is h) (tT K cm g) (tE K cm el) own) σ H Q ∨ tLc (iKeys (tVar i)) (tG K cm is h) (tT K cm g) (tE K cm el) own σ H Q := by
    obtain ⟨C, A, ρ, t, ρ', R, q, k⟩ := hh
    unfold nLc iKey at q
    simp only [Option.bind_eq_some_iff, Option.map_eq_some_iff] at q
    obtain ⟨⟨ds, ρ1⟩, ⟨⟨kvs, ρ1'⟩, h0, h0'⟩, q⟩ := q
    cases h0'
    dsimp only at q
    split at q
    rotate_left
    · cases q
    rename_i hbig
    simp only [Option.bind_eq_some_iff, Option.map_eq_some_iff] at q
    obtain ⟨ρw, h2, ⟨all, ρ2⟩, h3, h4⟩ := q
    cases h4
    obtain ⟨A1, d, ks, l1, R1, hv, hd, hn, hk⟩ := dicS_ok R h0
    rcases hd with hd | ⟨od, hd⟩
    · refine .inl ⟨d, .dK ks, hd, trivial, fun od => ?_⟩
      have s : Sw d ks H (upd H d (.frz od (.dK ks))) := ⟨.inl hd, .inr ⟨od, upd_same⟩, fun x q => upd_ne q⟩
      have R2 := R1.sw (o := .frz od (.dK ks)) s hn
      refine tLc_core (C := C.sw d (.frz od (.dK ks))) (A := A1) hsub (fun R' hR => ⟨_, hv, d, od, rfl, .inl ⟨ks, upd_same, hR _ _ A1 _ (.refl _ _) R2 it_keys ⟨upd_same, hn, hk.sw s⟩⟩⟩) hbig h2 h3 fun v H' A' F l2 R3 rt hnd hF => ?_
      have hd' : H' d = some (.frz od (.dK ks)) := l2.l.st _ _ upd_same pl_frz.1 hn
      have hn' : ¬ A' d := (l2.l.rd (.inl upd_same) hn).2
      have s' : Sw d ks H' (upd H' d (.dK ks)) := ⟨.inr ⟨od, hd'⟩, .inl upd_same, fun x q => upd_ne q⟩
      refine ⟨hd', k v _ A' F (l1.trans (Lt.unsw (ks := ks) hd hn (fun z => hn (R1.out d z)) l2)) (R3.unsw s' hn' fun x e tn np => ?_) (rt.sw s' fun m => hn' (hF d m).2.1) hnd fun a m => ⟨sw_none.mp (hF a m).1, (hF a m).2⟩⟩
      have := R1.fr d x e tn np
      rw [hd] at this; cases this; rfl
    · refine .inr (tLc_core (C := C) (A := A1) hsub (fun R' hR => ⟨_, hv, d, od, rfl, .inl ⟨ks, hd, hR _ _ A1 _ (.refl _ _) R1 it_keys ⟨hd, hn, hk⟩⟩⟩) hbig h2 h3 fun v H' A' F l2 R3 rt hnd hF => k v H' A' F (l1.trans l2) R3 rt hnd hF)
theorem fs_setLcK {i j : Nat} {y : Str} {own : List (Str × Nat)} {scope : Scope} {is : List Nat} {h : D → Rho → Option Rho} {g : Bm} {el : Em} (hc : X.calm = true) (hN : X.N.Nodup) (hy : X.N[i]? = some y) (hyl : X.env.scope.names.lookup y = some .local)
    (hsw : swapsWith (.ListComp elt [⟨tg, e, ifs, 0⟩] scope pos) (some (.Name y py)) spos.line X.env = pure true) (ho : PE X e (tVar j)) (ok : BlkOk X.N X.env.scope scope own)
    (hg : ∀ (s : Shared) (H : Hp) (C : Addr) (cl : List (Str × Addr)) (fp : List Addr), FG (X.blk s H scope (compEnvC scope cl C X.env) fp) cm tg is h) (ht : ∀ (s : Shared) (H : Hp) (C : Addr) (cl : List (Str × Addr)) (fp : List Addr), FTs (X.blk s H scope (compEnvC scope cl C X.env) fp) cm ifs g)
    (he : ∀ (s : Shared) (H : Hp) (C : Addr) (cl : List (Str × Addr)) (fp : List Addr), FE (X.blk s H scope (compEnvC scope cl C X.env) fp) cm elt el) (hsub : ∀ i ∈ is, i ∈ own.map (·.2)) (hs : ∀ x, foldedSetIterable e X.env x = pure x := by intro _; rfl) :
    FS X cm (.Assign [.Name y py] (.ListComp elt [⟨tg, e, ifs, 0⟩] scope pos) spos) (sAsg i (nLc (own.map (·.2)) (iKey j) h g el)) :=
  have p : PS X (.Assign [.Name y py] (.ListComp elt [⟨tg, e, ifs, 0⟩] scope pos) spos) (tAsg (tLc (iKeys (tVar j)) (tG X.K cm is h) (tT X.K cm g) (tE X.K cm el) (own.map (·.2))) (gName i)) := ps_setLc hc hN hy hyl hsw (pi_keys ho) ok hg ht he hs
  ⟨fun pins s σ H D I q => (lcK_core hsub (sAsg_of q)).elim (fun z => (ps_lock p).run pins s σ H D I z) (fun z => p.run pins s σ H D I z)⟩
theorem fs_setLcI {i j : Nat} {y : Str} {own : List (Str × Nat)} {scope : Scope} {is : List Nat} {h : D → Rho → Option Rho} {g : Bm} {el : Em} (hc : X.calm = true) (hN : X.N.Nodup) (hy : X.N[i]? = some y) (hyl : X.env.scope.names.lookup y = some .local)
    (hsw : swapsWith (.ListComp elt [⟨(.Tuple elts kk tpos), (.Call (.Attribute e "items" apos) [] [] cpos), ifs, 0⟩] scope pos) (some (.Name y py)) spos.line X.env = pure true) (ho : PE X e (tVar j)) (ok : BlkOk X.N X.env.scope scope own)
    (hg : ∀ (s : Shared) (H : Hp) (C : Addr) (cl : List (Str × Addr)) (fp : List Addr), FG (X.blk s H scope (compEnvC scope cl C X.env) fp) cm (.Tuple elts kk tpos) is h) (ht : ∀ (s : Shared) (H : Hp) (C : Addr) (cl : List (Str × Addr)) (fp : List Addr), FTs (X.blk s H scope (compEnvC scope cl C X.env) fp) cm ifs g)
    (he : ∀ (s : Shared) (H : Hp) (C : Addr) (cl : List (Str × Addr)) (fp : List Addr), FE (X.blk s H scope (compEnvC scope cl C X.env) fp) cm elt el) (hsub : ∀ i ∈ is, i ∈ own.map (·.2))
    (hbase : attributeBase e "items" X.env (eval e X.env) = eval e X.env := by rfl) (hline : (apos.endLine == cpos.line) = true := by rfl) (hs : ∀ x, foldedSetIterable (.Call (.Attribute e "items" apos) [] [] cpos) X.env x = pure x := by intro _; rfl) :
    FS X cm (.Assign [.Name y py] (.ListComp elt [⟨.Tuple elts kk tpos, (.Call (.Attribute e "items" apos) [] [] cpos), ifs, 0⟩] scope pos) spos) (sAsg i (nLc (own.map (·.2)) (iItm j) h g el)) :=
  have p : PS X (.Assign [.Name y py] (.ListComp elt [⟨.Tuple elts kk tpos, (.Call (.Attribute e "items" apos) [] [] cpos), ifs, 0⟩] scope pos) spos) (tAsg (tLc (iItems (tVar j)) (tG X.K cm is h) (tT X.K cm g) (tE X.K cm el) (own.map (·.2))) (gName i)) := ps_setLc hc hN hy hyl hsw (pi_items ho hbase hline) ok hg ht he hs
  ⟨fun pins s σ H D I q => (lcI_core hsub (sAsg_of q)).elim (fun z => (ps_lock p).run pins s σ H D I z) (fun z => p.run pins s σ H D I z)⟩
end
theorem hu3 {A : Around} {k : Nat} (hr : Room k A) : A.units + 3 < cLine := Nat.lt_of_le_of_lt (Nat.add_le_add_left (by decide : 3 ≤ 64) _) hr.units
theorem maxR_mem' (d : D) (ds : List D) : maxR d ds ∈ d :: ds := maxR_mem d ds
theorem minR_mem' (d : D) (ds : List D) : minR d ds ∈ d :: ds := minR_mem d ds
end G

/-! La50: captured names, by a look. -/
namespace G
open PySem PySem.Spec L2
theorem free_by {ns es : List (Str × NameKind)} (h : (ns.all fun y => !decide (y.2 = .free) || decide (es.lookup y.1 = some .cell) || decide (es.lookup y.1 = some .free)) = true) : ∀ y ∈ ns, y.2 = .free → es.lookup y.1 = some .cell ∨ es.lookup y.1 = some .free := fun y hy e => by
  have := List.all_eq_true.mp h y hy
  simp only [Bool.or_eq_true, Bool.not_eq_true', decide_eq_true_eq, decide_eq_false_iff_not] at this
  rcases this with (z | z) | z
  · exact absurd e z
  · exact .inl z
  · exact .inr z
end G

set_option maxHeartbeats 2000000
/-! La51: [.. for .. in one's own dict]: the dict stays one's own, if what is made is scalar. -/
namespace G
open PySem PySem.Spec L2 PyProof.Rows
def scD : D → Bool
  | .non => true
  | .bl _ => true
  | .int _ => true
  | .str _ => true
  | _ => false
def scT : T → Bool
  | .p d => scD d
  | .ls ds => ds.all scD
  | _ => false
def thA (own : Bool) (kvs : List (DK × D)) (a b : Sl) : Option Sl := if own then some (.v (.di kvs)) else match a with
  | .no => some .no
  | .v (.p d) => some (.v (.p d))
  | .v _ => (match b with
    | .v t => if scT t then some (.v t) else none
    | _ => none)
  | .pin _ => (match b with
    | .pin t => if scT t then some (.pin t) else none
    | _ => none)
def thaw (i : Nat) (kvs : List (DK × D)) (j : Nat) : Rho → Rho → Option Rho
  | a :: as, b :: bs => (thA (j == i) kvs a b).bind fun s => (thaw i kvs (j + 1) as bs).map fun r => s :: r
  | [], [] => some []
  | _, _ => none
theorem thaw_at {i : Nat} {kvs : List (DK × D)} : ∀ {as bs : Rho} {j : Nat} {r : Rho}, thaw i kvs j as bs = some r → r.length = as.length ∧ bs.length = as.length ∧ ∀ m s, r[m]? = some s → ∃ a b, as[m]? = some a ∧ bs[m]? = some b ∧ thA (j + m == i) kvs a b = some s
  | [], [], j, r, e => by cases e; exact ⟨rfl, rfl, fun m s h => by simp at h⟩
  | [], _ :: _, j, r, e => by cases e
  | _ :: _, [], j, r, e => by cases e
  | a :: as, b :: bs, j, r, e => by
    simp only [thaw, Option.bind_eq_some_iff, Option.map_eq_some_iff] at e
    obtain ⟨s, e1, r', e2, rfl⟩ := e
    obtain ⟨h1, h2, h3⟩ := thaw_at e2
    refine ⟨by simp [h1], by simp [h2], fun m s' h => ?_⟩
    cases m with
    | zero => simp at h; subst h; exact ⟨a, b, rfl, rfl, e1⟩
    | succ m =>
      obtain ⟨a', b', x1, x2, x3⟩ := h3 m s' (by simpa using h)
      refine ⟨a', b', by simpa using x1, by simpa using x2, ?_⟩
      rw [show j + (m + 1) = j + 1 + m by omega]
      exact x3
section
variable {K : PySem.W.Frag} {cm : Cm} {A A' : AS} {H H' : Hp} {C : Fc} {σ : L2.St} {ρ ρ' ρ2 : Rho} {Y : List Addr}
theorem rp_sc {d : D} {v : V} (h : scD d = true) (r : Rp K cm A H v d) : Rp K cm A' H v d := by
  cases r <;> first | exact .non | exact .bl _ | exact .int _ | exact .str _ | cases h
theorem rpl_sc : ∀ {ds : List D} {vs : List V}, ds.all scD = true → RpL K cm A H vs ds → RpL K cm A' H vs ds
  | _, _, _, .nil => .nil
  | _, _, h, .cons r rs => by
    simp only [List.all_cons, Bool.and_eq_true] at h
    exact .cons (rp_sc h.1 r) (rpl_sc h.2 rs)
theorem rt_sc {t : T} {v : V} {F : List Addr} (h : scT t = true) (r : RT K cm A H v t F) : RT K cm A' H v t F := by
  cases t with
  | p d => exact ⟨r.1, rp_sc h r.2⟩
  | ls ds =>
    obtain ⟨b, xs, e1, e2, e, r⟩ := r
    exact ⟨b, xs, e1, e2, e, rpl_sc h r⟩
  | _ => cases h
def ownS : Option Sl → Bool
  | some (.v (.p _)) => false
  | some (.v _) => true
  | some (.pin _) => true
  | _ => false
theorem RS.thaw {i : Nat} {d : Addr} {ks : List (Key × V)} {kvs : List (DK × D)} (R : RS K cm C A [] σ H ρ) (e : ρ[i]? = some (.v (.di kvs))) (hv : σ[i]? = some (some (.ref d))) (R3 : RS K cm C A' Y σ H' ρ') (l : Lt C A H A' H') (hd : H' d = some (.dK ks)) (hA : A d)
    (hk : RpK K cm A H ks kvs) (hn : ¬ A' d) (hY : ∀ a ∈ Y, A' a) (th : thaw i kvs 0 ρ ρ' = some ρ2) : Lt C A H (fun a => A' a ∨ a = d) H' ∧ RS K cm C (fun a => A' a ∨ a = d) Y σ H' ρ2 := by
  obtain ⟨F, h1, h2, h3, h4, h5⟩ := R.sl
  obtain ⟨G, g1, g2, g3, g4, g5⟩ := R3.sl
  obtain ⟨t1, t2, t3⟩ := thaw_at th
  obtain ⟨o, x1, v, rfl, ⟨b, xs, rfl, eF, hb, _⟩, f⟩ := h5 i _ e
  rw [hv] at x1; cases x1
  have l2 : Lt C A H (fun a => A' a ∨ a = d) H' := ⟨⟨l.l.st, fun a z => z.elim (l.l.nw a) fun z => .inl (by rw [z]; exact hA), l.l.dm⟩, l.o⟩
  have hd0 : d ∈ F i := by rw [eF]; simp
  have hA0 : ¬ C.A0 d := (h3 i d hd0).2.1
  have nG : ∀ m, d ∉ G m := fun m z => hn (g3 m d z).1
  refine ⟨l2, ⟨by rw [t1]; exact R.len, ⟨fun m => if m = i then [d] else if ownS ρ[m]? then G m else [], fun m => ?_, fun m m' a ha ha' => ?_, fun m a ha => ?_, fun m hm => ?_, fun m s hs => ?_⟩, fun a z => .inl (R3.out a z), fun a z => ?_, fun a z => ?_, R3.fr, R3.fd, R3.tb, fun a z φ => ?_⟩⟩
  · dsimp only
    split
    · exact List.nodup_cons.mpr ⟨fun z => (nomatch z), List.nodup_nil⟩
    · split
      · exact g1 m
      · exact List.nodup_nil
  · dsimp only at ha ha'
    split at ha
    · rename_i q
      split at ha'
      · rename_i q'; rw [q, q']
      · split at ha'
        · obtain rfl : a = d := by simpa using ha
          exact absurd ha' (nG m')
        · cases ha'
    · split at ha
      · split at ha'
        · obtain rfl : a = d := by simpa using ha'
          exact absurd ha (nG m)
        · split at ha'
          · exact g2 m m' a ha ha'
          · cases ha'
      · cases ha
  · dsimp only at ha
    split at ha
    · obtain rfl : a = d := by simpa using ha
      exact ⟨.inr rfl, hA0, fun z => hn (hY a z)⟩
    · split at ha
      · have := g3 m a ha
        exact ⟨.inl this.1, this.2⟩
      · cases ha
  · dsimp only
    have hl : ρ[m]? = none := by
      rw [List.getElem?_eq_none_iff] at hm ⊢
      omega
    split
    · rename_i q
      rw [q, e] at hl; cases hl
    · rw [hl]
      rfl
  · obtain ⟨a, b, y1, y2, y3⟩ := t3 m s hs
    obtain ⟨o, z1, z2⟩ := h5 m a y1
    refine ⟨o, z1, ?_⟩
    dsimp only
    unfold thA at y3
    split at y3
    · rename_i q
      have q' : m = i := by simpa using q
      cases y3
      rw [if_pos q']
      rw [q', hv] at z1; cases z1
      exact ⟨_, rfl, ⟨d, ks, rfl, rfl, hd, hk.later l2.l⟩, fun a m => by
        obtain rfl : a = d := by simpa using m
        exact f a hd0⟩
    · rename_i q
      have q' : ¬ m = i := by simpa using q
      rw [if_neg q', y1]
      split at y3
      · cases y3; rfl
      · rename_i dd
        cases y3
        obtain ⟨v, e1, r, f'⟩ := z2
        exact ⟨v, e1, ⟨rfl, r.2.later l2.l⟩, fun a m => nomatch m⟩
      · rename_i t0 hne
        split at y3
        · rename_i tt
          split at y3
          · rename_i hsc
            cases y3
            obtain ⟨o', w1, w2⟩ := g5 m _ y2
            rw [z1] at w1; cases w1
            obtain ⟨v, e1, r, f'⟩ := w2
            have ho : ownS (some (.v t0)) = true := by
              cases t0 with
              | p dd => exact absurd rfl (hne dd)
              | _ => rfl
            rw [if_pos ho]
            exact ⟨v, e1, rt_sc hsc r, f'⟩
          · cases y3
        · cases y3
      · split at y3
        · split at y3
          · rename_i hsc
            cases y3
            obtain ⟨o', w1, w2⟩ := g5 m _ y2
            rw [z1] at w1; cases w1
            obtain ⟨v, e1, e2, r, f'⟩ := w2
            exact ⟨v, e1, e2, rt_sc hsc r, f'⟩
          · cases y3
        · cases y3
  · rcases z with z | z
    · exact R3.sub a z
    · exact .inr (.inr (by rw [z]; exact f d hd0))
  · rcases z with z | z
    · exact R3.dom a z
    · rw [z, hd]; exact fun z => nomatch z
  · rcases z with z | z
    · exact R3.ne a z φ
    · rw [z, hd]; exact fun z => nomatch z
end
end G

set_option maxHeartbeats 2000000
/-! La52: comprehensions over one's own dict: the rules. -/
namespace G
open PySem PySem.Spec L2 PyProof.Rows
/-- [.. for .. in the own dict of slot i], scalars made -/
def nLcO (own : List Nat) (wk : List (DK × D) → List D) (i : Nat) (h : D → Rho → Option Rho) (g : Bm) (el : Em) : Rho → Option (T × Rho) := fun ρ => match ρ[i]? with
  | some (.v (.di kvs)) => (frzS i ρ).bind fun ρ1 => if (wk kvs).length ≤ big then (wipeS own ρ1).bind fun ρw => (lcF own h g el (wk kvs) ρw).bind fun r => if scT (.ls r.1) then (thaw i kvs 0 ρ (back ρ1 r.2 own)).map fun ρ2 => (.ls r.1, ρ2) else none else none
  | _ => none
section
variable {X : Cx} {cm : Cm} {pos tpos apos cpos spos py : Pos} {elt e c tg : Expr} {ifs elts : List Expr} {kk : Nat}
theorem lcOK_core {K : PySem.W.Frag} {i : Nat} {own is : List Nat} {h : D → Rho → Option Rho} {g : Bm} {el : Em} {σ : L2.St} {H : Hp} {Q : VK} (hsub : ∀ i ∈ is, i ∈ own) (hh : tN K cm (nLcO own keysD i h g el) σ H Q) :
    tLockE (tLc (iKeys (tVar i)) (tG K cm is h) (tT K cm g) (tE K cm el) own) σ H Q := by
  obtain ⟨C, A, ρ, t, ρ', R, q, k⟩ := hh
  unfold nLcO at q
  split at q
  rotate_left
  · cases q
  rename_i kvs hi
  rw [Option.bind_eq_some_iff] at q
  obtain ⟨ρ1, hz, q⟩ := q
  split at q
  rotate_left
  · cases q
  rename_i hbig
  simp only [Option.bind_eq_some_iff] at q
  obtain ⟨ρw, h2, ⟨all, ρ2⟩, h3, q⟩ := q
  dsimp only at q
  split at q
  rotate_left
  · cases q
  rename_i hsc
  rw [Option.map_eq_some_iff] at q
  obtain ⟨ρ4, hth, h4⟩ := q
  cases h4
  have hdic : dicS i ρ = some (kvs, ρ1) := by
    unfold dicS
    rw [hi]
    simp [hz]
  obtain ⟨A1, d, ks, l1, R1, hv, hd0, hn, hk⟩ := dicS_ok R hdic
  obtain ⟨F0, p1, p2, p3, p4, p5⟩ := R.sl
  obtain ⟨o, x1, v, rfl, ⟨b, xs, rfl, eF, hb, hkb⟩, f⟩ := p5 i _ hi
  rw [hv] at x1; cases x1
  have hA : A d := (p3 i d (by rw [eF]; simp)).1
  have hd : H d = some (.dK ks) := by
    rcases hd0 with z | ⟨o, z⟩
    · exact z
    · rw [z] at hb; cases hb
  have exs : xs = ks := by rw [hd] at hb; cases hb; rfl
  subst exs
  refine ⟨d, .dK xs, hd, trivial, fun od => ?_⟩
  have s : Sw d xs H (upd H d (.frz od (.dK xs))) := ⟨.inl hd, .inr ⟨od, upd_same⟩, fun x q => upd_ne q⟩
  have R2 := R1.sw (o := .frz od (.dK xs)) s hn
  refine tLc_core (C := C.sw d (.frz od (.dK xs))) (A := A1) hsub (fun R' hR => ⟨_, hv, d, od, rfl, .inl ⟨xs, upd_same, hR _ _ A1 _ (.refl _ _) R2 it_keys ⟨upd_same, hn, hk.sw s⟩⟩⟩) hbig h2 h3 fun v H' A' F l2 R3 rt hnd hF => ?_
  have hd' : H' d = some (.frz od (.dK xs)) := l2.l.st _ _ upd_same pl_frz.1 hn
  have hn' : ¬ A' d := (l2.l.rd (.inl upd_same) hn).2
  have s' : Sw d xs H' (upd H' d (.dK xs)) := ⟨.inr ⟨od, hd'⟩, .inl upd_same, fun x q => upd_ne q⟩
  have l3 := l1.trans (Lt.unsw (ks := xs) hd hn (fun z => hn (R1.out d z)) l2)
  have R4 := R3.unsw s' hn' (o1 := .dK xs) fun x e tn np => by
    have := R1.fr d x e tn np
    rw [hd] at this; cases this; rfl
  have rt4 := rt.sw s' fun m => hn' (hF d m).2.1
  obtain ⟨l5, R5⟩ := R.thaw hi hv R4 l3 upd_same hA hkb hn' (fun a m => (hF a m).2.1) hth
  refine ⟨hd', k v _ _ F l5 R5 (rt_sc hsc rt4) hnd fun a m => ⟨sw_none.mp (hF a m).1, .inl (hF a m).2.1, (hF a m).2.2⟩⟩
theorem lcOI_core {K : PySem.W.Frag} {i : Nat} {own is : List Nat} {h : D → Rho → Option Rho} {g : Bm} {el : Em} {σ : L2.St} {H : Hp} {Q : VK} (hsub : ∀ i ∈ is, i ∈ own) (hh : tN K cm (nLcO own itemsD i h g el) σ H Q) :
    tLockE (tLc (iItems (tVar i)) (tG K cm is h) (tT K cm g) (tE K cm el) own) σ H Q := by
  obtain ⟨C, A, ρ, t, ρ', R, q, k⟩ := hh
  unfold nLcO at q
  split at q
  rotate_left
  · cases q
  rename_i kvs hi
  rw [Option.bind_eq_some_iff] at q
  obtain ⟨ρ1, hz, q⟩ := q
  split at q
  rotate_left
  · cases q
  rename_i hbig
  simp only [Option.bind_eq_some_iff] at q
  obtain ⟨ρw, h2, ⟨all, ρ2⟩, h3, q⟩ := q
  dsimp only at q
  split at q
  rotate_left
  · cases q
  rename_i hsc
  rw [Option.map_eq_some_iff] at q
  obtain ⟨ρ4, hth, h4⟩ := q
  cases h4
  have hdic : dicS i ρ = some (kvs, ρ1) := by
    unfold dicS
    rw [hi]
    simp [hz]
  obtain ⟨A1, d, ks, l1, R1, hv, hd0, hn, hk⟩ := dicS_ok R hdic
  obtain ⟨F0, p1, p2, p3, p4, p5⟩ := R.sl
  obtain ⟨o, x1, v, rfl, ⟨b, xs, rfl, eF, hb, hkb⟩, f⟩ := p5 i _ hi
  rw [hv] at x1; cases x1
  have hA : A d := (p3 i d (by rw [eF]; simp)).1
  have hd : H d = some (.dK ks) := by
    rcases hd0 with z | ⟨o, z⟩
    · exact z
    · rw [z] at hb; cases hb
  have exs : xs = ks := by rw [hd] at hb; cases hb; rfl
  subst exs
  refine ⟨d, .dK xs, hd, trivial, fun od => ?_⟩
  have s : Sw d xs H (upd H d (.frz od (.dK xs))) := ⟨.inl hd, .inr ⟨od, upd_same⟩, fun x q => upd_ne q⟩
  have R2 := R1.sw (o := .frz od (.dK xs)) s hn
  refine tLc_core (C := C.sw d (.frz od (.dK xs))) (A := A1) hsub (fun R' hR => ⟨_, hv, d, od, xs, rfl, upd_same, hR _ _ A1 _ (.refl _ _) R2 it_items ⟨upd_same, hn, hk.sw s⟩⟩) hbig h2 h3 fun v H' A' F l2 R3 rt hnd hF => ?_
  have hd' : H' d = some (.frz od (.dK xs)) := l2.l.st _ _ upd_same pl_frz.1 hn
  have hn' : ¬ A' d := (l2.l.rd (.inl upd_same) hn).2
  have s' : Sw d xs H' (upd H' d (.dK xs)) := ⟨.inr ⟨od, hd'⟩, .inl upd_same, fun x q => upd_ne q⟩
  have l3 := l1.trans (Lt.unsw (ks := xs) hd hn (fun z => hn (R1.out d z)) l2)
  have R4 := R3.unsw s' hn' (o1 := .dK xs) fun x e tn np => by
    have := R1.fr d x e tn np
    rw [hd] at this; cases this; rfl
  have rt4 := rt.sw s' fun m => hn' (hF d m).2.1
  obtain ⟨l5, R5⟩ := R.thaw hi hv R4 l3 upd_same hA hkb hn' (fun a m => (hF a m).2.1) hth
  refine ⟨hd', k v _ _ F l5 R5 (rt_sc hsc rt4) hnd fun a m => ⟨sw_none.mp (hF a m).1, .inl (hF a m).2.1, (hF a m).2.2⟩⟩
theorem fn_lcOK {j : Nat} {own : List (Str × Nat)} {scope : Scope} {is : List Nat} {h : D → Rho → Option Rho} {g : Bm} {el : Em} (hc : X.calm = true) (hN : X.N.Nodup) (ho : PE X e (tVar j)) (ok : BlkOk X.N X.env.scope scope own)
    (hg : ∀ (s : Shared) (H : Hp) (C : Addr) (cl : List (Str × Addr)) (fp : List Addr), FG (X.blk s H scope (compEnvC scope cl C X.env) fp) cm tg is h) (ht : ∀ (s : Shared) (H : Hp) (C : Addr) (cl : List (Str × Addr)) (fp : List Addr), FTs (X.blk s H scope (compEnvC scope cl C X.env) fp) cm ifs g)
    (he : ∀ (s : Shared) (H : Hp) (C : Addr) (cl : List (Str × Addr)) (fp : List Addr), FE (X.blk s H scope (compEnvC scope cl C X.env) fp) cm elt el) (hsub : ∀ i ∈ is, i ∈ own.map (·.2)) (hs : ∀ x, foldedSetIterable e X.env x = pure x := by intro _; rfl) :
    FN X cm (.ListComp elt [⟨tg, e, ifs, 0⟩] scope pos) (nLcO (own.map (·.2)) keysD j h g el) :=
  have p : PE X (.ListComp elt [⟨tg, e, ifs, 0⟩] scope pos) (tLc (iKeys (tVar j)) (tG X.K cm is h) (tT X.K cm g) (tE X.K cm el) (own.map (·.2))) := pe_lc hc hN (pi_keys ho) ok hg ht he hs
  (pe_lock p).imp fun σ H Q q => lcOK_core hsub q
theorem fs_setLcOK {i : Nat} {y : Str} {j : Nat} {own : List (Str × Nat)} {scope : Scope} {is : List Nat} {h : D → Rho → Option Rho} {g : Bm} {el : Em} (hc : X.calm = true) (hN : X.N.Nodup) (hy : X.N[i]? = some y) (hyl : X.env.scope.names.lookup y = some .local)
    (hsw : swapsWith (.ListComp elt [⟨tg, e, ifs, 0⟩] scope pos) (some (.Name y py)) spos.line X.env = pure true) (ho : PE X e (tVar j)) (ok : BlkOk X.N X.env.scope scope own)
    (hg : ∀ (s : Shared) (H : Hp) (C : Addr) (cl : List (Str × Addr)) (fp : List Addr), FG (X.blk s H scope (compEnvC scope cl C X.env) fp) cm tg is h) (ht : ∀ (s : Shared) (H : Hp) (C : Addr) (cl : List (Str × Addr)) (fp : List Addr), FTs (X.blk s H scope (compEnvC scope cl C X.env) fp) cm ifs g)
    (he : ∀ (s : Shared) (H : Hp) (C : Addr) (cl : List (Str × Addr)) (fp : List Addr), FE (X.blk s H scope (compEnvC scope cl C X.env) fp) cm elt el) (hsub : ∀ i ∈ is, i ∈ own.map (·.2)) (hs : ∀ x, foldedSetIterable e X.env x = pure x := by intro _; rfl) :
    FS X cm (.Assign [.Name y py] (.ListComp elt [⟨tg, e, ifs, 0⟩] scope pos) spos) (sAsg i (nLcO (own.map (·.2)) keysD j h g el)) :=
  have p : PS X (.Assign [.Name y py] (.ListComp elt [⟨tg, e, ifs, 0⟩] scope pos) spos) (tAsg (tLc (iKeys (tVar j)) (tG X.K cm is h) (tT X.K cm g) (tE X.K cm el) (own.map (·.2))) (gName i)) := ps_setLc hc hN hy hyl hsw (pi_keys ho) ok hg ht he hs
  ⟨fun pins s σ H D I q => (ps_lock p).run pins s σ H D I (lcOK_core hsub (sAsg_of q))⟩
theorem fn_lcOI {j : Nat} {own : List (Str × Nat)} {scope : Scope} {is : List Nat} {h : D → Rho → Option Rho} {g : Bm} {el : Em} (hc : X.calm = true) (hN : X.N.Nodup) (ho : PE X e (tVar j)) (ok : BlkOk X.N X.env.scope scope own)
    (hg : ∀ (s : Shared) (H : Hp) (C : Addr) (cl : List (Str × Addr)) (fp : List Addr), FG (X.blk s H scope (compEnvC scope cl C X.env) fp) cm (.Tuple elts kk tpos) is h) (ht : ∀ (s : Shared) (H : Hp) (C : Addr) (cl : List (Str × Addr)) (fp : List Addr), FTs (X.blk s H scope (compEnvC scope cl C X.env) fp) cm ifs g)
    (he : ∀ (s : Shared) (H : Hp) (C : Addr) (cl : List (Str × Addr)) (fp : List Addr), FE (X.blk s H scope (compEnvC scope cl C X.env) fp) cm elt el) (hsub : ∀ i ∈ is, i ∈ own.map (·.2)) (hbase : attributeBase e "items" X.env (eval e X.env) = eval e X.env := by rfl) (hline : (apos.endLine == cpos.line) = true := by rfl) (hs : ∀ x, foldedSetIterable (.Call (.Attribute e "items" apos) [] [] cpos) X.env x = pure x := by intro _; rfl) :
    FN X cm (.ListComp elt [⟨(.Tuple elts kk tpos), (.Call (.Attribute e "items" apos) [] [] cpos), ifs, 0⟩] scope pos) (nLcO (own.map (·.2)) itemsD j h g el) :=
  have p : PE X (.ListComp elt [⟨(.Tuple elts kk tpos), (.Call (.Attribute e "items" apos) [] [] cpos), ifs, 0⟩] scope pos) (tLc (iItems (tVar j)) (tG X.K cm is h) (tT X.K cm g) (tE X.K cm el) (own.map (·.2))) := pe_lc hc hN (pi_items ho hbase hline) ok hg ht he hs
  (pe_lock p).imp fun σ H Q q => lcOI_core hsub q
theorem fs_setLcOI {i : Nat} {y : Str} {j : Nat} {own : List (Str × Nat)} {scope : Scope} {is : List Nat} {h : D → Rho → Option Rho} {g : Bm} {el : Em} (hc : X.calm = true) (hN : X.N.Nodup) (hy : X.N[i]? = some y) (hyl : X.env.scope.names.lookup y = some .local)
    (hsw : swapsWith (.ListComp elt [⟨(.Tuple elts kk tpos), (.Call (.Attribute e "items" apos) [] [] cpos), ifs, 0⟩] scope pos) (some (.Name y py)) spos.line X.env = pure true) (ho : PE X e (tVar j)) (ok : BlkOk X.N X.env.scope scope own)
    (hg : ∀ (s : Shared) (H : Hp) (C : Addr) (cl : List (Str × Addr)) (fp : List Addr), FG (X.blk s H scope (compEnvC scope cl C X.env) fp) cm (.Tuple elts kk tpos) is h) (ht : ∀ (s : Shared) (H : Hp) (C : Addr) (cl : List (Str × Addr)) (fp : List Addr), FTs (X.blk s H scope (compEnvC scope cl C X.env) fp) cm ifs g)
    (he : ∀ (s : Shared) (H : Hp) (C : Addr) (cl : List (Str × Addr)) (fp : List Addr), FE (X.blk s H scope (compEnvC scope cl C X.env) fp) cm elt el) (hsub : ∀ i ∈ is, i ∈ own.map (·.2)) (hbase : attributeBase e "items" X.env (eval e X.env) = eval e X.env := by rfl) (hline : (apos.endLine == cpos.line) = true := by rfl) (hs : ∀ x, foldedSetIterable (.Call (.Attribute e "items" apos) [] [] cpos) X.env x = pure x := by intro _; rfl) :
    FS X cm (.Assign [.Name y py] (.ListComp elt [⟨(.Tuple elts kk tpos), (.Call (.Attribute e "items" apos) [] [] cpos), ifs, 0⟩] scope pos) spos) (sAsg i (nLcO (own.map (·.2)) itemsD j h g el)) :=
  have p : PS X (.Assign [.Name y py] (.ListComp elt [⟨(.Tuple elts kk tpos), (.Call (.Attribute e "items" apos) [] [] cpos), ifs, 0⟩] scope pos) spos) (tAsg (tLc (iItems (tVar j)) (tG X.K cm is h) (tT X.K cm g) (tE X.K cm el) (own.map (·.2))) (gName i)) := ps_setLc hc hN hy hyl hsw (pi_items ho hbase hline) ok hg ht he hs
  ⟨fun pins s σ H D I q => (ps_lock p).run pins s σ H D I (lcOI_core hsub (sAsg_of q))⟩
end
end G

/-! La53: mirrors of La42..La52 applied to slots. -/
namespace G
open PySem PySem.Spec L2
def dicAt (i : Nat) (ρ : Rho) : Option Sl → Option (List (DK × D) × Rho)
  | some (.v (.p (.dic kvs))) => some (kvs, ρ)
  | some (.v (.di kvs)) => some (kvs, ρ.set i (.v (.p (.dic kvs))))
  | _ => none
@[simp] theorem dicAt_p (i : Nat) (ρ : Rho) (kvs : List (DK × D)) : dicAt i ρ (some (.v (.p (.dic kvs)))) = some (kvs, ρ) := rfl
@[simp] theorem dicAt_di (i : Nat) (ρ : Rho) (kvs : List (DK × D)) : dicAt i ρ (some (.v (.di kvs))) = some (kvs, ρ.set i (.v (.p (.dic kvs)))) := rfl
@[simp] theorem dicS_ap (i : Nat) (ρ : Rho) : dicS i ρ = dicAt i ρ ρ[i]? := by
  unfold dicS dicAt
  cases q : ρ[i]? with
  | none => rfl
  | some s => cases s with
    | no => rfl
    | pin t => rfl
    | v t => cases t with
      | p d => cases d <;> rfl
      | di kvs => simp [frzS, q]
      | _ => rfl
@[simp] theorem iItm_ap (i : Nat) (ρ : Rho) : iItm i ρ = ((dicS i ρ).map fun p => (itemsD p.1, p.2)) := rfl
@[simp] theorem aStar_ap (f : Em) (g : Am) (ρ : Rho) : aStar f g ρ = ((f ρ).bind fun p => (rd p.2 p.1).bind fun d => match d with
  | .tup ds => (g p.2).map fun q => (ds.map RV.val ++ q.1, q.2)
  | .lst ds => (g p.2).map fun q => (ds.map RV.val ++ q.1, q.2)
  | _ => none) := rfl
@[simp] theorem aStarV_ap (i : Nat) (g : Am) (ρ : Rho) : aStarV i g ρ = ((dicS i ρ).bind fun p => (g p.2).map fun q => (p.1.map (fun kv => RV.val kv.2) ++ q.1, q.2)) := rfl
@[simp] theorem eLenSetT_ap (f : Em) (ρ : Rho) : eLenSetT f ρ = ((f ρ).bind fun p => (rd p.2 p.1).bind fun d => match d with
  | .tup ds => (intL ds).bind fun ns => if ns.length < 64 then some (.val (.int (dis ns).length), p.2) else none
  | _ => none) := rfl
@[simp] theorem nRevL_ap (f : Em) (ρ : Rho) : nRevL f ρ = ((f ρ).bind fun p => (rd p.2 p.1).bind fun d => match d with
  | .lst ds => some (.ls ds.reverse, p.2)
  | _ => none) := rfl
@[simp] theorem eRevT_ap (f : Em) (ρ : Rho) : eRevT f ρ = ((f ρ).bind fun p => match p.1 with
  | .val (.str s) => if s.length ≤ big then some (.val (.str s.reverse), p.2) else none
  | _ => none) := rfl
@[simp] theorem nSortK_ap (i : Nat) (js : List Nat) (m : Em) (ρ : Rho) : nSortK i js m ρ = ((dicS i ρ).bind fun p => if p.1.length ≤ big then (capS p.2 js).bind fun cs => (keyN m cs (keysD p.1)).map fun ns => (.ls (bykey ((keysD p.1).zip ns)), p.2) else none) := rfl
def lcoAt (own : List Nat) (wk : List (DK × D) → List D) (i : Nat) (h : D → Rho → Option Rho) (g : Bm) (el : Em) (ρ : Rho) : Option Sl → Option (T × Rho)
  | some (.v (.di kvs)) => if (wk kvs).length ≤ big then (wipeS own (ρ.set i (.v (.p (.dic kvs))))).bind fun ρw => (lcF own h g el (wk kvs) ρw).bind fun r => if scT (.ls r.1) then (thaw i kvs 0 ρ (back (ρ.set i (.v (.p (.dic kvs)))) r.2 own)).map fun ρ2 => (.ls r.1, ρ2) else none else none
  | _ => none
@[simp] theorem lcoAt_di (own : List Nat) (wk : List (DK × D) → List D) (i : Nat) (h : D → Rho → Option Rho) (g : Bm) (el : Em) (ρ : Rho) (kvs : List (DK × D)) : lcoAt own wk i h g el ρ (some (.v (.di kvs))) = (if (wk kvs).length ≤ big then (wipeS own (ρ.set i (.v (.p (.dic kvs))))).bind fun ρw => (lcF own h g el (wk kvs) ρw).bind fun r => if scT (.ls r.1) then (thaw i kvs 0 ρ (back (ρ.set i (.v (.p (.dic kvs)))) r.2 own)).map fun ρ2 => (.ls r.1, ρ2) else none else none) := rfl
@[simp] theorem nLcO_ap (own : List Nat) (wk : List (DK × D) → List D) (i : Nat) (h : D → Rho → Option Rho) (g : Bm) (el : Em) (ρ : Rho) : nLcO own wk i h g el ρ = lcoAt own wk i h g el ρ ρ[i]? := by
  unfold nLcO lcoAt
  cases q : ρ[i]? with
  | none => rfl
  | some s => cases s with
    | no => rfl
    | pin t => rfl
    | v t => cases t with
      | p d => rfl
      | di kvs => simp [frzS, q]
      | _ => rfl
@[simp] theorem thaw_cons (i : Nat) (kvs : List (DK × D)) (j : Nat) (a b : Sl) (as bs : Rho) : thaw i kvs j (a :: as) (b :: bs) = (thA (j == i) kvs a b).bind fun s => (thaw i kvs (j + 1) as bs).map fun r => s :: r := rfl
@[simp] theorem thaw_nil (i : Nat) (kvs : List (DK × D)) (j : Nat) : thaw i kvs j [] [] = some [] := rfl
@[simp] theorem thA_own (kvs : List (DK × D)) (a b : Sl) : thA true kvs a b = some (.v (.di kvs)) := rfl
@[simp] theorem thA_no (kvs : List (DK × D)) (b : Sl) : thA false kvs .no b = some .no := rfl
@[simp] theorem thA_p (kvs : List (DK × D)) (d : D) (b : Sl) : thA false kvs (.v (.p d)) b = some (.v (.p d)) := rfl
@[simp] theorem thA_ls (kvs : List (DK × D)) (d e : List D) : thA false kvs (.v (.ls d)) (.v (.ls e)) = if scT (.ls e) then some (.v (.ls e)) else none := rfl
end G

set_option maxHeartbeats 2000000
/-! La54: x in d, d.pop(x), list(d.values()), d[x], e[y] = v, w of dicts; xs.index(x). -/
namespace G
open PySem PySem.Spec L2 PyProof.Rows
def cInD : D → D → Option D
  | .int k, .dic kvs => some (.bl (lookK kvs (.i k)).isSome)
  | .str k, .dic kvs => some (.bl (lookK kvs (.s k)).isSome)
  | _, _ => none
def cNiD (x y : D) : Option D := (cInD x y).bind fun d => match d with
  | .bl b => some (.bl (!b))
  | _ => none
def rInDict : R2 := fun x y H Q => ∃ a o, y = .ref a ∧ DGet H a x o ∧ Q (.bl o.isSome) H
def rNiDict : R2 := fun x y H Q => ∃ a o, y = .ref a ∧ DGet H a x o ∧ Q (.bl (!o.isSome)) H
theorem op_inDict {X : Cx} (hu : X.A.units + 1 < cLine) : OpR X (compareOp .In) rInDict := by
  intro pins s σ H x y v u Q I rx ry h
  obtain ⟨a, o, e, g, q⟩ := h
  subst e
  cases (show u = Value.ref a from ry)
  exact d_in hu I g rx fun s' I' => ⟨.bl o.isSome, H, I', rfl, q⟩
theorem op_niDict {X : Cx} (hu : X.A.units + 1 < cLine) : OpR X (compareOp .NotIn) rNiDict := by
  intro pins s σ H x y v u Q I rx ry h
  obtain ⟨a, o, e, g, q⟩ := h
  subst e
  cases (show u = Value.ref a from ry)
  exact d_notIn hu I g rx fun s' I' => ⟨.bl (!o.isSome), H, I', rfl, q⟩
section
variable {K : PySem.W.Frag} {cm : Cm}
theorem RpK.isSome {A : AS} {H : Hp} {k : DK} {ks : List (Key × V)} {kvs : List (DK × D)} (r : RpK K cm A H ks kvs) : (valV ks k.k).isSome = (lookK kvs k).isSome := by
  cases q : lookK kvs k with
  | none => rw [r.lookN q]; rfl
  | some d =>
    obtain ⟨v, e1, _⟩ := r.look q
    rw [e1]; rfl
theorem in_dict {A : AS} {H : Hp} {x y : V} {dx dy dz : D} (hx : Ro K cm A H x dx) (hy : Ro K cm A H y dy) (e : cInD dx dy = some dz) : ∃ a o, y = .ref a ∧ DGet H a x o ∧ dz = .bl o.isSome := by
  unfold cInD at e
  split at e
  · rename_i k kvs
    cases e
    cases hx.int
    obtain ⟨a, ks, rfl, hl, rl⟩ := hy.di
    exact ⟨a, valV ks (DK.i k).k, rfl, .inl ⟨ks, _, hl, rfl, rfl⟩, by rw [rl.isSome]⟩
  · rename_i k kvs
    cases e
    cases hx.str
    obtain ⟨a, ks, rfl, hl, rl⟩ := hy.di
    exact ⟨a, valV ks (DK.s k).k, rfl, .inl ⟨ks, _, hl, rfl, rfl⟩, by rw [rl.isSome]⟩
  · cases e
theorem ro_inDict : RO K cm rInDict cInD := by
  intro A H x y dx dy dz Q hd hx hy e k
  obtain ⟨a, o, e1, g, rfl⟩ := in_dict hx hy e
  exact ⟨a, o, e1, g, k _ H (.refl H) (.bl _)⟩
theorem ro_niDict : RO K cm rNiDict cNiD := by
  intro A H x y dx dy dz Q hd hx hy e k
  unfold cNiD at e
  rw [Option.bind_eq_some_iff] at e
  obtain ⟨d, e0, e1⟩ := e
  obtain ⟨a, o, e2, g, rfl⟩ := in_dict hx hy e0
  cases e1
  exact ⟨a, o, e2, g, k _ H (.refl H) (.bl _)⟩
end
/-! ### d.pop(x) -/
def dropD (kvs : List (DK × D)) (k : DK) : List (DK × D) := kvs.filter fun kv => decide (kv.1 ≠ k)
theorem RpK.drop {K : PySem.W.Frag} {cm : Cm} {A : AS} {H : Hp} {k : DK} : ∀ {ks : List (Key × V)} {kvs : List (DK × D)}, RpK K cm A H ks kvs → RpK K cm A H (dropK ks k.k) (dropD kvs k)
  | _, _, .nil => .nil
  | _, _, .cons (k := k') h r => by
    have ih := RpK.drop (k := k) r
    unfold dropK dropD at ih ⊢
    rw [List.filter_cons, List.filter_cons]
    by_cases q : k' = k
    · subst q
      rw [if_neg (by simp), if_neg (by simp)]
      exact ih
    · rw [if_pos (by simpa using fun z => q (DK.k_inj z)), if_pos (by simpa using q)]
      exact .cons h ih
def eDPop (i : Nat) (g : Em) : Em := fun ρ => (isDi ρ i).bind fun _ => (g ρ).bind fun p => (rd p.2 p.1).bind fun k => (isDi p.2 i).bind fun s => (k.k?).bind fun kk => (lookK s.2 kk).map fun d => (.val d, p.2.set i (s.1.w (.di (dropD s.2 kk))))
section
variable {X : Cx} {cm : Cm} {o e : Expr} {pos apos cpos : Pos}
theorem fe_dpop {i : Nat} {g : Em} (ho : PE X o (tVar i)) (he : FE X cm e g) (m : M1 X o "pop" apos e cpos) : FE X cm (.Call (.Attribute o "pop" apos) [e] [] cpos) (eDPop i g) :=
  (pe_dpop1 ho he m).imp fun σ H Q ⟨C, A, ρ, t, ρ', R, q, k⟩ => by
    unfold eDPop at q
    simp only [Option.bind_eq_some_iff, Option.map_eq_some_iff] at q
    obtain ⟨⟨s0, ds0⟩, h0, ⟨rk, ρ1⟩, h1, kd, h2, ⟨s, ds⟩, h3, kk, h4, d, h5, h6⟩ := q
    cases h6
    obtain ⟨e0, t0⟩ := isDi_some h0
    obtain ⟨l0, xs0, v0, hl0, _⟩ := R.dict e0 t0
    refine ⟨_, v0, l0, rfl, .inl ⟨xs0, .inl hl0⟩, C, A, ρ, rk, ρ1, R, h1, fun v1 H1 A1 l1 R1 w1 => ?_⟩
    obtain ⟨e1, t1⟩ := isDi_some h3
    obtain ⟨l, xs, v1', hl, rl, put⟩ := R1.dict e1 t1
    rw [v0] at v1'; cases v1'
    obtain ⟨v, e2, rv⟩ := rl.look h5
    have hk : v1 = kV kk.k := by
      cases kd <;> cases h4
      · exact (rd_ok R1 w1 h2).int
      · exact (rd_ok R1 w1 h2).str
    obtain ⟨R2, l2⟩ := put _ _ rl.drop
    exact ⟨xs, kk.k, v, hl, hk, e2, k v _ A1 (l1.trans l2) R2 (rv.later l2.l)⟩
/-! ### list(d.values()) -/
theorem RpK.vals {K : PySem.W.Frag} {A : AS} {H : Hp} : ∀ {ks : List (Key × V)} {kvs : List (DK × D)}, RpK K cm A H ks kvs → RpL K cm A H (ks.map (·.2)) (kvs.map (·.2))
  | _, _, .nil => .nil
  | _, _, .cons h r => .cons h r.vals
def tListV (te : TE) : TE := fun σ H Q => te σ H fun x H1 => ∃ d ks, x = V.ref d ∧ Rd H1 d (.dK ks) ∧ ∀ p, H1 p = none → Q (.ref p) (upd H1 p (.lst (ks.map (·.2))))
theorem pe_listV {te : TE} {p : Pos} (hcalm : X.calm = true) (hg : Gl X "list") (hm : X.mg "list" = none) (he : PE X e te) (hbase : attributeBase e "values" X.env (eval e X.env) = eval e X.env := by rfl) (hline : (apos.endLine == cpos.line) = true := by rfl)
    (na : starEach [.Call (.Attribute e "values" apos) [] [] cpos] X.env = (false, eval (.Call (.Attribute e "values" apos) [] [] cpos) X.env) :: starEach [] X.env := by rfl) :
    PE X (.Call (.Name "list" p) [.Call (.Attribute e "values" apos) [] [] cpos] [] pos) (tListV te) := by
  refine ⟨fun pins s σ H Q I h => ?_⟩
  refine Call_ (ld_blt I hg hm (by decide +kernel : bootBuiltins "list" = some (.type "list")) ?_)
  refine PyProof.Rows.callWith_type1 (PyProof.Rows.args_cons ?_ na) na rfl
  refine wpAny_Call_method (T := "dict") (id := "dict.values") hbase rfl hline F.plainAttrs_dict F.slot_dict_values F.type_dict_values (thn (he.run pins s σ H _ I h) fun u s1 ⟨x, H1, I1, rx, d, kvs, ex, hd, q⟩ => ?_)
  subst ex
  obtain rfl : u = Value.ref d := rx
  obtain ⟨z, lo, vs, rel, dd⟩ := dk_rd I1.hok hd
  obtain ⟨ep, hm⟩ := dd.dictAt
  have hl : kvs.length = vs.length := rel.length
  refine ⟨hm.dictOf.typeIs, hm.dictOf.mapOf.noDict, ?_⟩
  have I2 : Inv X pins σ H1 { s1 with heap := s1.heap.push { cls := .type "dict_values", data := .fields #[.ref d] } } := I1.kept (t' := s1.toks) fun b ob q => Heap.get?_push_of_some _ q
  refine method_meetsIn F.slot_dict_values F.entry_dict_values rfl (PySem.evalArgs_none ⟨rfl, hm.dictOf.typeIs, F.args_dict_values_1 _, _, meets_dict_values (mixKind X.prog X.w) d lo, ⟨vs, hm.dictOf⟩, ?_⟩)
  have hview : (s1.heap.push { cls := .type "dict_values", data := .fields #[.ref d] }).IsValuesView s1.heap.objs.size d := ⟨_, Heap.get?_push_size _ rfl, rfl, rfl⟩
  refine PyProof.Rows.args_nil ?_
  refine PySem.W.kdl_call (PySem.W.kdl_values (knd := mixKind X.prog X.w) (kvs := vs) (ep := ep)) (I1.ok.hd hcalm) ⟨hview, hm.push _⟩ (by rw [← hl]; exact z) fun h' tk acc c' hk hD hacc => ?_
  have hv : Vals (kvs.map (·.2)) acc.toList := kvals_at rel _ (by rw [Array.length_toList]; exact hacc.1) fun j v e => hacc.2 j v (by rw [← Array.getElem?_toList]; exact e)
  exact ⟨V.ref (s1.heap.push { cls := .type "dict_values", data := .fields #[.ref d] }).objs.size, upd H1 (s1.heap.push { cls := .type "dict_values", data := .fields #[.ref d] }).objs.size (.lst (kvs.map (·.2))), I2.laid (t' := tk) hk (Nat.le_refl _) (show ObjOk X.prog X.w _ _ _ (.lst (kvs.map (·.2))) from ⟨by rw [List.length_map]; exact z, acc.toList, c', hv, by rw [Array.toArray_toList]; exact hD⟩), rfl, q _ (I2.hok.fresh (Nat.le_refl _))⟩
def nListV (f : Em) : Rho → Option (T × Rho) := fun ρ => (f ρ).bind fun p => (rd p.2 p.1).bind fun d => match d with
  | .dic kvs => some (.ls (kvs.map (·.2)), p.2)
  | _ => none
theorem fn_listV {f : Em} {p : Pos} (hcalm : X.calm = true) (hg : Gl X "list") (hm : X.mg "list" = none) (he : FE X cm e f) (hbase : attributeBase e "values" X.env (eval e X.env) = eval e X.env := by rfl) (hline : (apos.endLine == cpos.line) = true := by rfl)
    (na : starEach [.Call (.Attribute e "values" apos) [] [] cpos] X.env = (false, eval (.Call (.Attribute e "values" apos) [] [] cpos) X.env) :: starEach [] X.env := by rfl) :
    FN X cm (.Call (.Name "list" p) [.Call (.Attribute e "values" apos) [] [] cpos] [] pos) (nListV f) :=
  (pe_listV hcalm hg hm he hbase hline na).imp fun σ H Q ⟨C, A, ρ, t, ρ', R, q, k⟩ => by
    unfold nListV at q
    simp only [Option.bind_eq_some_iff] at q
    obtain ⟨⟨r, ρ1⟩, h1, d, h2, h3⟩ := q
    dsimp only at h3
    split at h3
    · rename_i kvs
      cases h3
      refine ⟨C, A, ρ, r, _, R, h1, fun v H1 A1 l1 R1 w1 => ?_⟩
      obtain ⟨a, ks, rfl, hl, rl⟩ := (rd_ok R1 w1 h2).di
      refine ⟨a, ks, rfl, hl, fun p hp => ?_⟩
      obtain ⟨l2, R2, hF⟩ := own1 (o := .lst (ks.map (·.2))) R1 hp
      exact k _ _ _ [p] (l1.trans l2) R2 ⟨p, _, rfl, rfl, upd_same, rl.vals.later l2.l⟩ (by simp) hF
    · cases h3
/-! ### targets d[x] of one's own dict -/
def hSubD (i : Nat) (g : Em) : D → Rho → Option Rho := fun d ρ => (isDi ρ i).bind fun _ => (g ρ).bind fun p => (rd p.2 p.1).bind fun k => (isDi p.2 i).bind fun s => (k.k?).bind fun kk => if s.2.length < big then some (p.2.set i (s.1.w (.di (putD s.2 kk d)))) else none
theorem fg_subD {i : Nat} {g : Em} {b : Expr} (hu : X.A.units + 1 < cLine) (ho : PE X o (tVar i)) (hi : FE X cm b g)
    (ha : ∀ v, assign (.Subscript o b pos) X.env v = (do
      let ov ← holding [v] (eval o X.env)
      let iv ← holding [v, ov] (eval b X.env)
      standAt pos
      holding [v, ov, iv] (setItem ov iv v)
      release [v, ov, iv] []) := by intro _; rfl) : FG X cm (.Subscript o b pos) [] (hSubD i g) := (pg_sub ho hi (set_dict hu) ha).imp fun v σ H Q ⟨C, A, ρ, d, ρ', R, r, q, k⟩ => by
  simp only [hSubD, Option.bind_eq_some_iff] at q
  obtain ⟨⟨s0, ds0⟩, h0, ⟨rv, ρ1⟩, h1, kd, h2, ⟨s1, ds1⟩, h3, kk, h4, h5⟩ := q
  obtain ⟨e0, t0⟩ := isDi_some h0
  obtain ⟨l0, xs0, v0, hl0, _⟩ := R.dict e0 t0
  split at h5
  · rename_i hz
    cases h5
    refine ⟨_, v0, C, A, ρ, rv, ρ1, R, h1, fun w H1 A1 l1 R1 w1 => ?_⟩
    obtain ⟨e1, t1⟩ := isDi_some h3
    obtain ⟨l, xs, v1, hl, rl, put⟩ := R1.dict e1 t1
    rw [v0] at v1; cases v1
    have hk : w = kV kk.k := by
      cases kd <;> cases h4
      · exact (rd_ok R1 w1 h2).int
      · exact (rd_ok R1 w1 h2).str
    obtain ⟨R2, l2⟩ := put (putK xs kk.k v) (putD ds1 kk d) (rl.put (r.later l1.l))
    have hz' : ds1.length < big := hz
    exact ⟨l0, _, rfl, .inl ⟨xs, kk.k, hl, hk, big_lt (by rw [rl.length]; omega), rfl⟩, k σ _ A1 (l1.trans l2) R2 rfl fun _ _ => rfl⟩
  · cases h5
end
end G

set_option maxHeartbeats 2000000
/-! La55: sorted(list of pairs, of numbers, of texts); xs.index(x). -/
namespace G
open PySem PySem.Spec L2 PyProof.Rows
def rowsK : List D → Bool
  | [] => true
  | d :: ds => rowK d ds
theorem rowsK_all {ds : List D} (h : rowsK ds = true) : (∀ x ∈ ds, ∀ y ∈ ds, D.alk x y = true) ∧ D.flats ds = true := by
  cases ds with
  | nil => exact ⟨fun x m => (nomatch m), rfl⟩
  | cons d ds => exact rowK_all h
def leD (a b : D) : Bool := !D.lt b a
section
variable {X : Cx} {K : PySem.W.Frag} {cm : Cm}
def rSortDt (K : PySem.W.Frag) : List V → Hp → VK → Prop := fun vs H Q => ∃ (a : Addr) (xs : List V) (ds : List D), vs = [V.ref a] ∧ SqL K H a xs ∧ DpAll K H xs (D.pys ds) ∧ (∀ x ∈ ds, ∀ y ∈ ds, D.alk x y = true) ∧
  ∀ p, H p = none → Q (.ref p) (upd H p (.lst (((xs.zip ds).mergeSort (PySem.W.dataLe false fun q : V × D => q.2.py)).map (·.1))))
theorem srt_each {pins : List (Addr × Obj)} {σ : L2.St} {H : Hp} {s : Shared} (I : Inv X pins σ H s) : ∀ {xs : List V} {ds : List D} {its : List Value}, Vals xs its → DpAll X.K H xs (D.pys ds) →
    PySem.W.EachIs (fun (v : Value) (p : V × D) => RelV p.1 v) its (xs.zip ds) ∧ PySem.W.EachIs (fun (v : Value) (p : V × D) => ∃ as, Reads s.heap v p.2.py as) its (xs.zip ds) ∧ (xs.zip ds).map (·.2) = ds ∧ (xs.zip ds).length = its.length
  | [], ds, _, .nil, hd => by
    cases ds with
    | nil => exact ⟨.nil, .nil, rfl, rfl⟩
    | cons d ds => cases hd
  | x :: xs, ds, _, .cons r t, hd => by
    cases ds with
    | nil => cases hd
    | cons d ds =>
      cases hd with
      | cons h hs =>
        obtain ⟨h1, h2, h3, h4⟩ := srt_each I t hs
        exact ⟨.cons r h1, .cons (Dp.reads I _ _ _ h r) h2, by simp [h3], by simp [h4]⟩
theorem each_valsD : ∀ {out : List Value} {ps : List (V × D)}, PySem.W.EachIs (fun (v : Value) (p : V × D) => RelV p.1 v) out ps → Vals (ps.map (·.1)) out
  | _, _, .nil => .nil
  | _, _, .cons h t => .cons h (each_valsD t)
theorem alk_sortable {ds : List D} (h : ∀ x ∈ ds, ∀ y ∈ ds, D.alk x y = true) : PySem.W.Sortable (ds.map D.py) := by
  cases ds with
  | nil => exact .inl fun d m => nomatch m
  | cons d ds =>
    have tp : (∃ a b, d = .tup [a, b]) ∨ ∀ x ∈ d :: ds, ∀ xs, x ≠ .tup xs := by
      by_cases q : ∃ a b, d = .tup [a, b]
      · exact .inl q
      · refine .inr fun x m xs e => ?_
        have h1 := h d (by simp) x m
        subst e
        cases d <;> try (simp [D.alk, D.a1] at h1)
        rename_i zs
        match zs, h1 with
        | [a, b], _ => exact q ⟨a, b, rfl⟩
    rcases tp with ⟨a, b, rfl⟩ | tp
    · refine .inl fun y my => ?_
      obtain ⟨x, mx, rfl⟩ := List.mem_map.mp my
      have h1 := h (.tup [a, b]) (by simp) x mx
      cases x <;> try (simp [D.alk, D.a1] at h1)
      rename_i zs
      match zs, h1 with
      | [c, e], _ => exact ⟨c.py, [e.py], rfl⟩
    · refine .inr fun y my => ?_
      obtain ⟨x, mx, rfl⟩ := List.mem_map.mp my
      have h1 := h x mx x mx
      refine ⟨(alk_py h1).2.2.1, fun xs e => ?_⟩
      cases x <;> (try (simp [D.alk, D.a1] at h1)) <;> (try cases e)
      exact tp _ mx _ rfl
theorem cr_sortedDt (hu : X.A.units + 3 < cLine) : CallR X (.builtin "sorted") (rSortDt X.K) := by
  intro pins s σ H vs us Q I r h
  obtain ⟨a, xs, ds, rfl, hs, hd, hal, q⟩ := h
  rw [Vals.ref1 r]
  obtain ⟨its, rv, hl, hz⟩ := I.list hs
  obtain ⟨e1, e2, e3, e4⟩ := srt_each I rv hd
  have e5 : (xs.zip ds).map (fun p : V × D => p.2.py) = ds.map D.py := by
    have := congrArg (List.map D.py) e3
    rwa [List.map_map] at this
  refine PySem.W.sorted_data (bs := xs.zip ds) (enc := fun p : V × D => p.2.py) (R := fun (v : Value) (p : V × D) => RelV p.1 v) hl.isList e1 e2 ?_ ?_ (by rw [e4, ← rv.length]; exact hz) (fun b hb => ?_) fun out ho eo => ?_
  · rw [e5]
    intro x hx y hy
    obtain ⟨x', mx, rfl⟩ := List.mem_map.mp hx
    obtain ⟨y', my, rfl⟩ := List.mem_map.mp hy
    exact (alk_py (hal x' mx y' my)).1
  · rw [e5]
    exact alk_sortable hal
  · have hm : b.2 ∈ ds := by rw [← e3]; exact List.mem_map.mpr ⟨b, hb, rfl⟩
    have := (alk_py (hal _ hm _ hm)).2.2.2.1
    omega
  · obtain ⟨c, hc⟩ := sortedAll_at s.heap its out.toArray
    refine ⟨.ref (s.heap.objs.size + 1), upd H (s.heap.objs.size + 1) (.lst (((xs.zip ds).mergeSort (PySem.W.dataLe false fun q : V × D => q.2.py)).map (·.1))), I.laid (t' := s.toks) (fun b o q => sortedAll_old q) (Nat.le_succ _) ⟨?_, out, c, each_valsD eo, hc⟩, rfl, q _ (I.hok.fresh (Nat.le_succ _))⟩
    rw [List.length_map, List.length_mergeSort, e4, ← rv.length]
    exact hz
def cSortDt : List D → Option (List D)
  | [.lst ds] => if rowsK ds then some (ds.mergeSort leD) else none
  | _ => none
theorem rpl_pairs {A : AS} {H : Hp} : ∀ {ps : List (V × D)}, (∀ p ∈ ps, Rp K cm A H p.1 p.2) → RpL K cm A H (ps.map (·.1)) (ps.map (·.2))
  | [], _ => .nil
  | p :: ps, h => .cons (h p (by simp)) (rpl_pairs fun q m => h q (by simp [m]))
theorem rpl_zip {A : AS} {H : Hp} : ∀ {xs : List V} {ds : List D}, RpL K cm A H xs ds → (∀ p ∈ xs.zip ds, Rp K cm A H p.1 p.2) ∧ (xs.zip ds).map (·.2) = ds
  | _, _, .nil => ⟨fun p m => (nomatch m), rfl⟩
  | _, _, .cons h r => by
    obtain ⟨h1, h2⟩ := rpl_zip r
    refine ⟨fun p m => ?_, by simp [h2]⟩
    rcases List.mem_cons.mp m with e | m
    · rw [e]; exact h
    · exact h1 p m
theorem rc_sortDt : RCN K cm (rSortDt K) cSortDt := by
  intro A H vs es ds' Q hd hl hr e k
  unfold cSortDt at e
  split at e
  · rename_i ds
    split at e
    · rename_i hk
      cases e
      obtain ⟨v, rfl, r⟩ := hr.one
      obtain ⟨a, xs, rfl, hs, rl⟩ := r.ls
      obtain ⟨hall, hfl⟩ := rowsK_all hk
      obtain ⟨hz, hm⟩ := rpl_zip rl
      refine ⟨a, xs, ds, rfl, hs, rl.dp hfl, hall, fun p hp => k p _ hp ?_⟩
      have h1 := rpl_pairs (K := K) (cm := cm) (A := A) (H := H) (ps := (xs.zip ds).mergeSort (PySem.W.dataLe false fun q : V × D => q.2.py)) fun p m => hz p (List.mem_mergeSort.mp m)
      have h2 : ((xs.zip ds).mergeSort (PySem.W.dataLe false fun q : V × D => q.2.py)).map (·.2) = ds.mergeSort leD := by
        have := List.map_mergeSort (r := PySem.W.dataLe false fun q : V × D => q.2.py) (s := leD) (f := fun q : V × D => q.2) (l := xs.zip ds) (fun p mp q mq => by
          have m1 : p.2 ∈ ds := by rw [← hm]; exact List.mem_map.mpr ⟨p, mp, rfl⟩
          have m2 : q.2 ∈ ds := by rw [← hm]; exact List.mem_map.mpr ⟨q, mq, rfl⟩
          show (!PySem.W.dataLt q.2.py p.2.py) = !D.lt q.2 p.2
          rw [(alk_py (hall _ m2 _ m1)).2.1])
        rw [this, hm]
      rw [h2] at h1
      exact h1
    · cases e
  · cases e
/-! ### xs.index(x) -/
def idxE (x : D) : List D → Option Nat
  | [] => none
  | d :: ds => if D.eq d x then some 0 else (idxE x ds).map (· + 1)
def mIdx : List D → List D → Option (D × List D)
  | ds, [d] => if d.fl && flL ds then (idxE d ds).map fun j : Nat => (.int (j : Nat), ds) else none
  | _, _ => none
theorem idx_v {A : AS} {H : Hp} {v : V} {d : D} (h : Rp K cm A H v d) (f : d.fl = true) : ∀ {xs : List V} {ds : List D} {j : Nat}, RpL K cm A H xs ds → flL ds = true → idxE d ds = some j → ∃ z, xs[j]? = some z ∧ eqV z v = true ∧ ∀ (m : Nat) (z' : V), m < j → xs[m]? = some z' → eqV z' v = false
  | _, _, _, .nil, _, e => by cases e
  | _, _, j, .cons (v := y) (d := e1) g t, f2, e => by
    simp only [flL, Bool.and_eq_true] at f2
    have hq := eq_v g h f2.1 f
    unfold idxE at e
    split at e
    · rename_i q
      cases e
      exact ⟨y, rfl, by rw [hq]; exact q, fun m z' hm => absurd hm (Nat.not_lt_zero _)⟩
    · rename_i q
      rw [Option.map_eq_some_iff] at e
      obtain ⟨i, e2, rfl⟩ := e
      obtain ⟨z, h1, h2, h3⟩ := idx_v h f t f2.2 e2
      refine ⟨z, by simpa using h1, h2, fun m z' hm hz => ?_⟩
      cases m with
      | zero =>
        cases hz
        rw [hq]
        simpa using q
      | succ m => exact h3 m z' (by omega) (by simpa using hz)
theorem upd_id {H : Hp} {a : Addr} {o : HO} (h : H a = some o) : upd H a o = H := by
  funext b
  by_cases q : b = a
  · rw [q, upd_same, h]
  · rw [upd_ne q]
theorem rm_idx : RM K cm (rIndex K) mIdx := by
  intro A H l xs vs ds es ds' z Q hl rx re e k
  unfold mIdx at e
  split at e
  · split at e
    · rename_i hf
      rw [Bool.and_eq_true] at hf
      rw [Option.map_eq_some_iff] at e
      obtain ⟨j, e1, e2⟩ := e
      cases e2
      cases re with
      | cons r1 re =>
        cases re
        obtain ⟨z, h1, h2, h3⟩ := idx_v r1 hf.1 rx hf.2 e1
        refine ⟨l, xs, _, j, z, rfl, rfl, .inl (.inl hl), fl_v r1 hf.1, fl_vL rx hf.2, h1, h2, h3, ?_⟩
        have := k _ xs (.int j) rx
        rwa [upd_id hl] at this
    · cases e
  · cases e
end
/-! ### applied -/
@[simp] theorem nListV_ap (f : Em) (ρ : Rho) : nListV f ρ = ((f ρ).bind fun p => (rd p.2 p.1).bind fun d => match d with
  | .dic kvs => some (.ls (kvs.map (·.2)), p.2)
  | _ => none) := rfl
@[simp] theorem eDPop_ap (i : Nat) (g : Em) (ρ : Rho) : eDPop i g ρ = ((isDi ρ i).bind fun _ => (g ρ).bind fun p => (rd p.2 p.1).bind fun k => (isDi p.2 i).bind fun s => (k.k?).bind fun kk => (lookK s.2 kk).map fun d => (.val d, p.2.set i (s.1.w (.di (dropD s.2 kk))))) := rfl
@[simp] theorem hSubD_ap (i : Nat) (g : Em) (d : D) (ρ : Rho) : hSubD i g d ρ = ((isDi ρ i).bind fun _ => (g ρ).bind fun p => (rd p.2 p.1).bind fun k => (isDi p.2 i).bind fun s => (k.k?).bind fun kk => if s.2.length < big then some (p.2.set i (s.1.w (.di (putD s.2 kk d)))) else none) := rfl
@[simp] theorem cInD_str (s : List Nat) (kvs : List (DK × D)) : cInD (.str s) (.dic kvs) = some (.bl (lookK kvs (.s s)).isSome) := rfl
@[simp] theorem cInD_int (s : Int) (kvs : List (DK × D)) : cInD (.int s) (.dic kvs) = some (.bl (lookK kvs (.i s)).isSome) := rfl
end G

set_option maxHeartbeats 4000000
/-! La56: len(set(list of ints)). -/
namespace G
open PySem PySem.Spec PyProof.Rows L2
section
variable {P : Program} {w : World} {A : Around} {E : Value → Shared → Prop} {s : Shared}
abbrev emS (w : World) : Obj := { cls := .type "set", dict := none, data := .set #[] 0 (.fresh 0 0 (!w.params.followText "set-order")) }
theorem call_set_lstI {l : Addr} {xs : List Value} (ns : List Int) {Q : Value → Shared → Prop} (hh : A.handled = none) (hl : s.heap.IsList l xs.toArray) (hit : IntsAre xs ns) (hb : ns.length + 1 < scanBound)
    (h : ∀ (h' : Heap) (tk c : Nat), SetR w h' s.heap.objs.size (fun j => decide (j ∈ ns)) c → c ≤ ns.length → (∀ b o, s.heap.get? b = some o → h'.get? b = some o) → Q (.ref s.heap.objs.size) { s with heap := h', toks := tk }) :
    wpAny (model P w) A (call (.type "set") [.ref l]) Q E s := by
  have hsz : xs.toArray.size = ns.length := by rw [List.size_toArray]; exact IntsAre.length hit
  obtain ⟨c, tl, hmro⟩ := F.called_set.mro
  have hmade := F.called_set.made
  have hsub := F.called_set.sub
  refine wpAny_call (codeAny_of_tree ?_)
  show wpAny _ _ (callAny (.type "set") _) _ _ _
  refine wpAny_pure ⟨Code.quiet_builtin _ (by decide +kernel), codeAny_builtin F.entry_type_call ?_⟩
  rw [Around.under_plain (weight_type_call_type "set" [.ref l] []) rfl]
  have h1 := F.called_set.notType
  have h2 := F.called_set.canCreate
  have hct := F.typeCall_set_1 (.ref l)
  repeat (any_goals (first | assumption | wp_step))
  refine codeAny_mono (code_set_led1 (.ref l) (E := E) (Q₁ := fun o1 s1 => o1 = .ref s.heap.objs.size ∧ s1 = { s with heap := s.heap.push (emS w) }) ⟨rfl, rfl⟩) fun r s1 hr => ?_
  cases r with
  | error e => exact hr
  | ok fl =>
    cases fl with
    | ret o1 =>
      obtain ⟨rfl, rfl⟩ := hr
      have hS : (s.heap.push (emS w)).get? s.heap.objs.size = some (emS w) := Heap.get?_push_size _ rfl
      have hT : Shared.TypeIs { s with heap := s.heap.push (emS w) } (.ref s.heap.objs.size) "set" := ⟨_, hS, rfl⟩
      have hli := F.called_set.init.lookup
      have hbi := F.called_set.init.bind (.ref s.heap.objs.size)
      repeat (any_goals (first | assumption | wp_step))
      refine codeAny_mono (codeAny_call_builtin (R := wants (fun r s2 => r = .none ∧ ∃ h' tk c, s2 = { s with heap := h', toks := tk } ∧ SetR w h' s.heap.objs.size (fun j => decide (j ∈ ns)) c ∧ c ≤ ns.length ∧
          (∀ b o, s.heap.get? b = some o → h'.get? b = some o)) E) F.called_set.init.plain F.entry_set_init (check_set_init_1 hT ?_)) fun r2 s2 hr2 => ?_
      · have hll := Heap.IsList.push (o := emS w) hl
        obtain ⟨ol, hol, hcl, nl, hdl⟩ := hl
        have hlt : l < s.heap.objs.size := Heap.lt_size hol
        obtain ⟨lc, ld, ldata, lsl⟩ := ol
        dsimp only at hcl hdl
        subst hcl
        subst hdl
        have hol2 : (s.heap.push (emS w)).get? l = some { cls := .type "list", dict := ld, data := .seq xs.toArray nl, slots := lsl } := Heap.get?_push_of_some _ hol
        have hss := PySem.F.sub_list_set
        have hsf := PySem.F.sub_list_frozenset
        have hne : (Value.type "list" == Value.type "dict") = false := by decide
        unfold Builtin.«set.__init__» noKeywords Builtin.Frozenset.updateFrom
        generalize hPI : pyIter = PI
        wp_walk
        subst hPI
        refine wpAny_pyIter_list hll (wpAny_bind (wpAny_runValue ?_))
        have hz1 : (s.heap.push (emS w)).objs.size = s.heap.objs.size + 1 := Heap.size_push ..
        have hval : ∀ (i : Nat) (v : Value), xs.toArray[i]? = some v → ∃ k t, ns[i]? = some k ∧ v = .int k t := fun i v hv => by
          have hi : i < ns.length := by rw [← hsz]; exact (Array.getElem?_eq_some_iff.mp hv).1
          obtain ⟨t, e⟩ := PyProof.Rows.IntsAre.int_at hit i v (by simpa using hv)
          refine ⟨ns[i], t, List.getElem?_eq_getElem hi, ?_⟩
          rw [e]
          simp [List.getD, hi]
        refine set_update_ints ((Walks.list (by simp [hh]) _ l (by rw [hz1]; exact Nat.ne_of_lt (Nat.lt_succ_of_lt hlt)) xs.toArray).toS) s.heap.objs.size (by rw [hz1]; simp; exact Nat.ne_of_gt hlt) ns hsz hb hval (xs.toArray.size - 0) 0 _ (by omega) (Nat.zero_le _)
          ⟨⟨_, Heap.get?_push_size _ rfl, rfl, rfl⟩, hll.push _⟩ ⟨0, Nat.le_refl 0, setR_new_at (Heap.get?_push_of_some _ hS)⟩ fun s3 c3 hm hc3 hS3 => ?_
        obtain ⟨h3, g3, d3, tk3, os3⟩ := s3
        have eg : g3 = s.gens := hm.gens
        have ed : d3 = s.drawn := hm.drawn
        have eo : os3 = s.os := hm.os
        subst eg
        subst ed
        subst eo
        refine wpAny_pure ?_
        show wpAny _ _ (ret Value.none) _ _ _
        refine wpAny_pure ⟨rfl, h3, tk3, c3, rfl, hS3, by rw [← hsz]; exact hc3, fun b o e => ?_⟩
        have hb0 : b < s.heap.objs.size := Heap.lt_size e
        exact hm.heap b o (by rw [hz1]; simp; exact ⟨Nat.ne_of_lt hb0, Nat.ne_of_lt (Nat.lt_succ_of_lt hb0)⟩) (Heap.get?_push_of_some _ (Heap.get?_push_of_some _ e))
      · cases r2 with
        | error e => exact hr2
        | ok fl2 =>
          cases fl2 with
          | ret r =>
            obtain ⟨rfl, h', tk, c', rfl, hS', hc', hk'⟩ := hr2
            repeat (any_goals (first | assumption | wp_step))
            exact h _ _ _ hS' hc' hk'
          | _ => exact hr2.elim
    | _ => exact hr.elim
end
section
variable {X : Cx} {cm : Cm}
def tLenSetL (K : PySem.W.Frag) (ta : TE) : TE := fun σ H Q => ta σ H fun x H1 => ∃ (l : Addr) (ns : List Int), x = V.ref l ∧ SqL K H1 l (ns.map V.int) ∧ ns.length < 64 ∧ Q (.int (dis ns).length) H1
theorem pe_lenSetL {a : Expr} {ta : TE} {p p2 q pos : Pos} (hc : X.calm = true) (hg : Gl X "len") (hm : X.mg "len" = none) (hg2 : Gl X "set") (hm2 : X.mg "set" = none) (ha : PE X a ta)
    (na : starEach [a] X.env = (false, eval a X.env) :: starEach [] X.env := by rfl) : PE X (.Call (.Name "len" p) [.Call (.Name "set" p2) [a] [] q] [] pos) (tLenSetL X.K ta) := by
  refine ⟨fun pins s σ H Q I h => ?_⟩
  refine Call_ (ld_blt I hg hm PySem.boot_len ?_)
  refine PyProof.Rows.callWith_builtin1 (PyProof.Rows.args_cons ?_ rfl) rfl rfl
  refine Call_ (ld_blt I hg2 hm2 PyProof.Rows.boot_set ?_)
  refine PyProof.Rows.callWith_type1 (PyProof.Rows.args_cons (thn (ha.run pins s σ H _ I h) fun v s1 ⟨x, H1, I1, r1, q1⟩ => PyProof.Rows.args_nil ?_) na) na rfl
  obtain ⟨l, ns, rfl, hq, h1, q1⟩ := q1
  cases r1
  obtain ⟨its, r, pl, hz⟩ := I1.list hq
  refine call_set_lstI ns (I1.ok.hd hc) pl.isList r.ints (by unfold scanBound; omega) fun h' tk c hS hcl hk => ?_
  refine PyProof.Rows.args_nil ?_
  obtain ⟨o, es, ep, t, ho, hex, hd, g, nd, hmem, hb, hf, hn, _⟩ := hS
  have I2 : Inv X pins σ H1 { s1 with heap := h', toks := tk } := I1.kept hk
  have e1 : es.size = (dis ns).length := by
    have := dis_len (l := ns) nd fun k => (hmem k).symm.trans (by simp)
    rw [List.length_map, Array.length_toList] at this
    exact this
  refine call_len_set ho hex hd hf (by rw [hn]; omega) ⟨.int (dis ns).length, H1, I2.tok _, ⟨_, by rw [e1]⟩, q1⟩
def eLenSetL (f : Em) : Em := fun ρ => (f ρ).bind fun p => (rd p.2 p.1).bind fun d => match d with
  | .lst ds => (intL ds).bind fun ns => if ns.length < 64 then some (.val (.int (dis ns).length), p.2) else none
  | _ => none
theorem fe_lenSetL {f : Em} {a : Expr} {p p2 q pos : Pos} (hc : X.calm = true) (hg : Gl X "len") (hm : X.mg "len" = none) (hg2 : Gl X "set") (hm2 : X.mg "set" = none) (ha : FE X cm a f)
    (na : starEach [a] X.env = (false, eval a X.env) :: starEach [] X.env := by rfl) : FE X cm (.Call (.Name "len" p) [.Call (.Name "set" p2) [a] [] q] [] pos) (eLenSetL f) :=
  (pe_lenSetL hc hg hm hg2 hm2 ha na).imp fun σ H Q ⟨C, A, ρ, t, ρ', R, q, kk⟩ => by
  unfold eLenSetL at q
  simp only [Option.bind_eq_some_iff] at q
  obtain ⟨⟨r, ρ1⟩, h1, d, h2, h3⟩ := q
  dsimp only at h3
  split at h3
  · rename_i ds
    rw [Option.bind_eq_some_iff] at h3
    obtain ⟨ns, e1, h3⟩ := h3
    split at h3
    · rename_i hz
      cases h3
      refine ⟨C, A, ρ, r, _, R, h1, fun v H1 A1 l1 R1 w1 => ?_⟩
      obtain ⟨a, xs, rfl, hs, rl⟩ := (rd_ok R1 w1 h2).ls
      have e2 := rl.intL e1
      subst e2
      exact ⟨a, ns, rfl, hs, hz, kk _ _ _ l1 R1 (.int _)⟩
    · cases h3
  · cases h3
end
@[simp] theorem eLenSetL_ap (f : Em) (ρ : Rho) : eLenSetL f ρ = ((f ρ).bind fun p => (rd p.2 p.1).bind fun d => match d with
  | .lst ds => (intL ds).bind fun ns => if ns.length < 64 then some (.val (.int (dis ns).length), p.2) else none
  | _ => none) := rfl
end G

set_option maxHeartbeats 2000000
/-! La57: len(dict). -/
namespace G
open PySem PySem.Spec PyProof.Rows L2
theorem cr_lenDk {X : Cx} : CallR X (.builtin "len") (fun xs H Q => ∃ a kvs, xs = [V.ref a] ∧ Rd H a (.dK kvs) ∧ Q (.int kvs.length) H) := by
  intro pins s σ H xs us Q I r q
  obtain ⟨a, kvs, rfl, hd, q⟩ := q
  rw [Vals.ref1 r]
  exact d_len I hd fun t s' I' => ⟨.int kvs.length, H, I', ⟨t, rfl⟩, q⟩
def cLenD : List D → Option D
  | [.dic kvs] => some (.int kvs.length)
  | _ => none
theorem rc_lenDk {K : PySem.W.Frag} {cm : Cm} : RC K cm (fun xs H Q => ∃ a kvs, xs = [V.ref a] ∧ Rd H a (.dK kvs) ∧ Q (.int kvs.length) H) cLenD := by
  intro A H vs ds dz Q hd hl hr e k
  unfold cLenD at e
  split at e
  · cases e
    obtain ⟨v, rfl, r⟩ := hr.one
    obtain ⟨a, ks, rfl, hs, rl⟩ := r.di
    exact ⟨a, ks, rfl, hs, by rw [rl.length]; exact k _ H (.refl H) (.int _)⟩
  · cases e
@[simp] theorem cLenD_dic (kvs : List (DK × D)) : cLenD [.dic kvs] = some (.int kvs.length) := rfl
end G

set_option maxHeartbeats 2000000
/-! La58: comprehensions over one's own list: the list stays one's own, if what is made is scalar. -/
namespace G
open PySem PySem.Spec L2 PyProof.Rows
def thL (own : Bool) (ds : List D) (a b : Sl) : Option Sl := if own then some (.v (.ls ds)) else match a with
  | .no => some .no
  | .v (.p d) => some (.v (.p d))
  | .v _ => (match b with
    | .v t => if scT t then some (.v t) else none
    | _ => none)
  | .pin _ => (match b with
    | .pin t => if scT t then some (.pin t) else none
    | _ => none)
def thawL (i : Nat) (ds : List D) (j : Nat) : Rho → Rho → Option Rho
  | a :: as, b :: bs => (thL (j == i) ds a b).bind fun s => (thawL i ds (j + 1) as bs).map fun r => s :: r
  | [], [] => some []
  | _, _ => none
theorem thawL_at {i : Nat} {ds : List D} : ∀ {as bs : Rho} {j : Nat} {r : Rho}, thawL i ds j as bs = some r → r.length = as.length ∧ bs.length = as.length ∧ ∀ m s, r[m]? = some s → ∃ a b, as[m]? = some a ∧ bs[m]? = some b ∧ thL (j + m == i) ds a b = some s
  | [], [], j, r, e => by cases e; exact ⟨rfl, rfl, fun m s h => by simp at h⟩
  | [], _ :: _, j, r, e => by cases e
  | _ :: _, [], j, r, e => by cases e
  | a :: as, b :: bs, j, r, e => by
    simp only [thawL, Option.bind_eq_some_iff, Option.map_eq_some_iff] at e
    obtain ⟨s, e1, r', e2, rfl⟩ := e
    obtain ⟨h1, h2, h3⟩ := thawL_at e2
    refine ⟨by simp [h1], by simp [h2], fun m s' h => ?_⟩
    cases m with
    | zero => simp at h; subst h; exact ⟨a, b, rfl, rfl, e1⟩
    | succ m =>
      obtain ⟨a', b', x1, x2, x3⟩ := h3 m s' (by simpa using h)
      refine ⟨a', b', by simpa using x1, by simpa using x2, ?_⟩
      rw [show j + (m + 1) = j + 1 + m by omega]
      exact x3
section
variable {K : PySem.W.Frag} {cm : Cm} {A A' : AS} {H H' : Hp} {C : Fc} {σ : L2.St} {ρ ρ' ρ2 : Rho} {Y : List Addr}
theorem RS.frzL {i : Nat} {ds : List D} (R : RS K cm C A [] σ H ρ) (e : ρ[i]? = some (.v (.ls ds))) : ∃ A1 d xs, Lt C A H A1 H ∧ RS K cm C A1 [] σ H (ρ.set i (.v (.p (.lst ds)))) ∧ σ[i]? = some (some (.ref d)) ∧ H d = some (.lst xs) ∧ A d ∧ ¬ A1 d ∧ RpL K cm A H xs ds := by
  obtain ⟨F, h1, h2, h3, h4, h5⟩ := R.sl
  have hil : i < ρ.length := (List.getElem?_eq_some_iff.mp e).1
  obtain ⟨o, e1, v, rfl, rt, f⟩ := h5 i _ e
  have rt0 := rt
  obtain ⟨d, xs, rfl, eF, hd, rl⟩ := rt0
  have hdF : d ∈ F i := by rw [eF]; simp
  have lt : Lt C A H (fun a => A a ∧ a ∉ F i) H := (Lt.refl A H).less fun a z => z.1
  refine ⟨_, d, xs, lt, ⟨by rw [List.length_set]; exact R.len, ⟨fun j => if j = i then [] else F j, fun j => ?_, fun j k a m m' => ?_, fun j a m => ?_, fun j ej => ?_, fun j s ej => ?_⟩, fun a z => ⟨R.out a z, fun m => (h3 i a m).2.1 z⟩, fun a z => R.sub a z.1, fun a z => R.dom a z.1, R.fr, R.fd, R.tb, fun a z => R.ne a z.1⟩, e1, hd, (h3 i d hdF).1, fun z => z.2 hdF, rl⟩
  · dsimp only; split
    · exact .nil
    · exact h1 j
  · dsimp only at m m'
    split at m <;> split at m' <;> first | cases m | cases m' | exact h2 j k a m m'
  · dsimp only at m
    split at m
    · cases m
    · rename_i hj
      exact ⟨⟨(h3 j a m).1, fun z => hj (h2 j i a m z)⟩, (h3 j a m).2.1, fun z => nomatch z⟩
  · dsimp only
    split
    · rfl
    · rename_i hj
      rw [List.getElem?_set_ne (Ne.symm hj)] at ej
      exact h4 j ej
  · dsimp only
    by_cases hj : j = i
    · subst hj
      rw [List.getElem?_set_self hil] at ej; cases ej
      refine ⟨_, e1, ?_⟩
      rw [if_pos rfl]
      exact ⟨_, rfl, RT.pure (rt.frz lt.l fun a m z => z.2 m), fun a m => nomatch m⟩
    · rw [if_neg hj]
      rw [List.getElem?_set_ne (Ne.symm hj)] at ej
      obtain ⟨u, e2, r⟩ := h5 j s ej
      exact ⟨u, e2, r.keep lt.l fun a _ o q => fun _ => q⟩
theorem RS.thawL {i : Nat} {d : Addr} {xs : List V} {ds : List D} (R : RS K cm C A [] σ H ρ) (e : ρ[i]? = some (.v (.ls ds))) (hv : σ[i]? = some (some (.ref d))) (R3 : RS K cm C A' Y σ H' ρ') (l : Lt C A H A' H') (hd : H' d = some (.lst xs)) (hA : A d)
    (hk : RpL K cm A H xs ds) (hn : ¬ A' d) (hY : ∀ a ∈ Y, A' a) (th : G.thawL i ds 0 ρ ρ' = some ρ2) : Lt C A H (fun a => A' a ∨ a = d) H' ∧ RS K cm C (fun a => A' a ∨ a = d) Y σ H' ρ2 := by
  obtain ⟨F, h1, h2, h3, h4, h5⟩ := R.sl
  obtain ⟨G, g1, g2, g3, g4, g5⟩ := R3.sl
  obtain ⟨t1, t2, t3⟩ := thawL_at th
  obtain ⟨o, x1, v, rfl, ⟨b, ys, rfl, eF, hb, _⟩, f⟩ := h5 i _ e
  rw [hv] at x1; cases x1
  have l2 : Lt C A H (fun a => A' a ∨ a = d) H' := ⟨⟨l.l.st, fun a z => z.elim (l.l.nw a) fun z => .inl (by rw [z]; exact hA), l.l.dm⟩, l.o⟩
  have hd0 : d ∈ F i := by rw [eF]; simp
  have hA0 : ¬ C.A0 d := (h3 i d hd0).2.1
  have nG : ∀ m, d ∉ G m := fun m z => hn (g3 m d z).1
  refine ⟨l2, ⟨by rw [t1]; exact R.len, ⟨fun m => if m = i then [d] else if ownS ρ[m]? then G m else [], fun m => ?_, fun m m' a ha ha' => ?_, fun m a ha => ?_, fun m hm => ?_, fun m s hs => ?_⟩, fun a z => .inl (R3.out a z), fun a z => ?_, fun a z => ?_, R3.fr, R3.fd, R3.tb, fun a z φ => ?_⟩⟩
  · dsimp only
    split
    · exact List.nodup_cons.mpr ⟨fun z => (nomatch z), List.nodup_nil⟩
    · split
      · exact g1 m
      · exact List.nodup_nil
  · dsimp only at ha ha'
    split at ha
    · rename_i q
      split at ha'
      · rename_i q'; rw [q, q']
      · split at ha'
        · obtain rfl : a = d := by simpa using ha
          exact absurd ha' (nG m')
        · cases ha'
    · split at ha
      · split at ha'
        · obtain rfl : a = d := by simpa using ha'
          exact absurd ha (nG m)
        · split at ha'
          · exact g2 m m' a ha ha'
          · cases ha'
      · cases ha
  · dsimp only at ha
    split at ha
    · obtain rfl : a = d := by simpa using ha
      exact ⟨.inr rfl, hA0, fun z => hn (hY a z)⟩
    · split at ha
      · have := g3 m a ha
        exact ⟨.inl this.1, this.2⟩
      · cases ha
  · dsimp only
    have hl : ρ[m]? = none := by
      rw [List.getElem?_eq_none_iff] at hm ⊢
      omega
    split
    · rename_i q
      rw [q, e] at hl; cases hl
    · rw [hl]
      rfl
  · obtain ⟨a, b, y1, y2, y3⟩ := t3 m s hs
    obtain ⟨o, z1, z2⟩ := h5 m a y1
    refine ⟨o, z1, ?_⟩
    dsimp only
    unfold thL at y3
    split at y3
    · rename_i q
      have q' : m = i := by simpa using q
      cases y3
      rw [if_pos q']
      rw [q', hv] at z1; cases z1
      exact ⟨_, rfl, ⟨d, xs, rfl, rfl, hd, hk.later l2.l⟩, fun a m => by
        obtain rfl : a = d := by simpa using m
        exact f a hd0⟩
    · rename_i q
      have q' : ¬ m = i := by simpa using q
      rw [if_neg q', y1]
      split at y3
      · cases y3; rfl
      · rename_i dd
        cases y3
        obtain ⟨v, e1, r, f'⟩ := z2
        exact ⟨v, e1, ⟨rfl, r.2.later l2.l⟩, fun a m => nomatch m⟩
      · rename_i t0 hne
        split at y3
        · rename_i tt
          split at y3
          · rename_i hsc
            cases y3
            obtain ⟨o', w1, w2⟩ := g5 m _ y2
            rw [z1] at w1; cases w1
            obtain ⟨v, e1, r, f'⟩ := w2
            have ho : ownS (some (.v t0)) = true := by
              cases t0 with
              | p dd => exact absurd rfl (hne dd)
              | _ => rfl
            rw [if_pos ho]
            exact ⟨v, e1, rt_sc hsc r, f'⟩
          · cases y3
        · cases y3
      · split at y3
        · split at y3
          · rename_i hsc
            cases y3
            obtain ⟨o', w1, w2⟩ := g5 m _ y2
            rw [z1] at w1; cases w1
            obtain ⟨v, e1, e2, r, f'⟩ := w2
            exact ⟨v, e1, e2, rt_sc hsc r, f'⟩
          · cases y3
        · cases y3
  · rcases z with z | z
    · exact R3.sub a z
    · exact .inr (.inr (by rw [z]; exact f d hd0))
  · rcases z with z | z
    · exact R3.dom a z
    · rw [z, hd]; exact fun z => nomatch z
  · rcases z with z | z
    · exact R3.ne a z φ
    · rw [z, hd]; exact fun z => nomatch z
end
/-- [.. for .. in the own list of slot i], scalars made -/
def nLcL (own : List Nat) (i : Nat) (h : D → Rho → Option Rho) (g : Bm) (el : Em) : Rho → Option (T × Rho) := fun ρ => match ρ[i]? with
  | some (.v (.ls ds)) => if ds.length ≤ big then (wipeS own (ρ.set i (.v (.p (.lst ds))))).bind fun ρw => (lcF own h g el ds ρw).bind fun r => if scT (.ls r.1) then (thawL i ds 0 ρ (back (ρ.set i (.v (.p (.lst ds)))) r.2 own)).map fun ρ2 => (.ls r.1, ρ2) else none else none
  | _ => none
section
variable {X : Cx} {cm : Cm} {pos spos py : Pos} {elt e tg : Expr} {ifs : List Expr}
theorem lcOL_core {K : PySem.W.Frag} {i : Nat} {own is : List Nat} {h : D → Rho → Option Rho} {g : Bm} {el : Em} {σ : L2.St} {H : Hp} {Q : VK} (hsub : ∀ i ∈ is, i ∈ own) (hh : tN K cm (nLcL own i h g el) σ H Q) :
    tLc (tI K cm (iSeq (eKeep i))) (tG K cm is h) (tT K cm g) (tE K cm el) own σ H Q := by
  obtain ⟨C, A, ρ, t, ρ', R, q, k⟩ := hh
  unfold nLcL at q
  split at q
  rotate_left
  · cases q
  rename_i ds hi
  split at q
  rotate_left
  · cases q
  rename_i hbig
  simp only [Option.bind_eq_some_iff] at q
  obtain ⟨ρw, h2, ⟨all, ρ2⟩, h3, q⟩ := q
  dsimp only at q
  split at q
  rotate_left
  · cases q
  rename_i hsc
  rw [Option.map_eq_some_iff] at q
  obtain ⟨ρ4, hth, h4⟩ := q
  cases h4
  obtain ⟨A1, d, xs, l1, R1, hv, hd, hA, hn, hk⟩ := R.frzL hi
  have hil : i < ρ.length := (List.getElem?_eq_some_iff.mp hi).1
  have hkp : iSeq (eKeep i) (ρ.set i (.v (.p (.lst ds)))) = some (ds, ρ.set i (.v (.p (.lst ds)))) := by
    have : (ρ.set i (.v (.p (.lst ds))))[i]? = some (.v (.p (.lst ds))) := List.getElem?_set_self hil
    simp [this, keepAt, seqD]
  refine tLc_core (C := C) (A := A1) hsub (fun R' hR => ⟨C, A1, _, ds, _, R1, hkp, hR⟩) hbig h2 h3 fun v H' A' F l2 R3 rt hnd hF => ?_
  have hd' : H' d = some (.lst xs) := l2.l.st _ _ hd (fun _ z => nomatch z) hn
  have hn' : ¬ A' d := (l2.l.rd (.inl hd) hn).2
  obtain ⟨l5, R5⟩ := R.thawL hi hv R3 (l1.trans l2) hd' hA hk hn' (fun a m => (hF a m).2.1) hth
  exact k v _ _ F l5 R5 (rt_sc hsc rt) hnd fun a m => ⟨(hF a m).1, .inl (hF a m).2.1, (hF a m).2.2⟩
theorem fn_lcOL {j : Nat} {own : List (Str × Nat)} {scope : Scope} {is : List Nat} {h : D → Rho → Option Rho} {g : Bm} {el : Em} (hc : X.calm = true) (hN : X.N.Nodup) (ho : FE X cm e (eKeep j)) (ok : BlkOk X.N X.env.scope scope own)
    (hg : ∀ (s : Shared) (H : Hp) (C : Addr) (cl : List (Str × Addr)) (fp : List Addr), FG (X.blk s H scope (compEnvC scope cl C X.env) fp) cm tg is h) (ht : ∀ (s : Shared) (H : Hp) (C : Addr) (cl : List (Str × Addr)) (fp : List Addr), FTs (X.blk s H scope (compEnvC scope cl C X.env) fp) cm ifs g)
    (he : ∀ (s : Shared) (H : Hp) (C : Addr) (cl : List (Str × Addr)) (fp : List Addr), FE (X.blk s H scope (compEnvC scope cl C X.env) fp) cm elt el) (hsub : ∀ i ∈ is, i ∈ own.map (·.2)) (hs : ∀ x, foldedSetIterable e X.env x = pure x := by intro _; rfl) :
    FN X cm (.ListComp elt [⟨tg, e, ifs, 0⟩] scope pos) (nLcL (own.map (·.2)) j h g el) :=
  have p : PE X (.ListComp elt [⟨tg, e, ifs, 0⟩] scope pos) (tLc (tI X.K cm (iSeq (eKeep j))) (tG X.K cm is h) (tT X.K cm g) (tE X.K cm el) (own.map (·.2))) := pe_lc hc hN (fi_seq ho) ok hg ht he hs
  p.imp fun σ H Q q => lcOL_core hsub q
theorem fs_setLcOL {i : Nat} {y : Str} {j : Nat} {own : List (Str × Nat)} {scope : Scope} {is : List Nat} {h : D → Rho → Option Rho} {g : Bm} {el : Em} (hc : X.calm = true) (hN : X.N.Nodup) (hy : X.N[i]? = some y) (hyl : X.env.scope.names.lookup y = some .local)
    (hsw : swapsWith (.ListComp elt [⟨tg, e, ifs, 0⟩] scope pos) (some (.Name y py)) spos.line X.env = pure true) (ho : FE X cm e (eKeep j)) (ok : BlkOk X.N X.env.scope scope own)
    (hg : ∀ (s : Shared) (H : Hp) (C : Addr) (cl : List (Str × Addr)) (fp : List Addr), FG (X.blk s H scope (compEnvC scope cl C X.env) fp) cm tg is h) (ht : ∀ (s : Shared) (H : Hp) (C : Addr) (cl : List (Str × Addr)) (fp : List Addr), FTs (X.blk s H scope (compEnvC scope cl C X.env) fp) cm ifs g)
    (he : ∀ (s : Shared) (H : Hp) (C : Addr) (cl : List (Str × Addr)) (fp : List Addr), FE (X.blk s H scope (compEnvC scope cl C X.env) fp) cm elt el) (hsub : ∀ i ∈ is, i ∈ own.map (·.2)) (hs : ∀ x, foldedSetIterable e X.env x = pure x := by intro _; rfl) :
    FS X cm (.Assign [.Name y py] (.ListComp elt [⟨tg, e, ifs, 0⟩] scope pos) spos) (sAsg i (nLcL (own.map (·.2)) j h g el)) :=
  have p : PS X (.Assign [.Name y py] (.ListComp elt [⟨tg, e, ifs, 0⟩] scope pos) spos) (tAsg (tLc (tI X.K cm (iSeq (eKeep j))) (tG X.K cm is h) (tT X.K cm g) (tE X.K cm el) (own.map (·.2))) (gName i)) := ps_setLc hc hN hy hyl hsw (fi_seq ho) ok hg ht he hs
  ⟨fun pins s σ H D I q => p.run pins s σ H D I (lcOL_core hsub (sAsg_of q))⟩
end
def lclAt (own : List Nat) (i : Nat) (h : D → Rho → Option Rho) (g : Bm) (el : Em) (ρ : Rho) : Option Sl → Option (T × Rho)
  | some (.v (.ls ds)) => if ds.length ≤ big then (wipeS own (ρ.set i (.v (.p (.lst ds))))).bind fun ρw => (lcF own h g el ds ρw).bind fun r => if scT (.ls r.1) then (thawL i ds 0 ρ (back (ρ.set i (.v (.p (.lst ds)))) r.2 own)).map fun ρ2 => (.ls r.1, ρ2) else none else none
  | _ => none
@[simp] theorem lclAt_ls (own : List Nat) (i : Nat) (h : D → Rho → Option Rho) (g : Bm) (el : Em) (ρ : Rho) (ds : List D) : lclAt own i h g el ρ (some (.v (.ls ds))) = (if ds.length ≤ big then (wipeS own (ρ.set i (.v (.p (.lst ds))))).bind fun ρw => (lcF own h g el ds ρw).bind fun r => if scT (.ls r.1) then (thawL i ds 0 ρ (back (ρ.set i (.v (.p (.lst ds)))) r.2 own)).map fun ρ2 => (.ls r.1, ρ2) else none else none) := rfl
@[simp] theorem nLcL_ap (own : List Nat) (i : Nat) (h : D → Rho → Option Rho) (g : Bm) (el : Em) (ρ : Rho) : nLcL own i h g el ρ = lclAt own i h g el ρ ρ[i]? := rfl
@[simp] theorem thawL_cons (i : Nat) (ds : List D) (j : Nat) (a b : Sl) (as bs : Rho) : thawL i ds j (a :: as) (b :: bs) = (thL (j == i) ds a b).bind fun s => (thawL i ds (j + 1) as bs).map fun r => s :: r := rfl
@[simp] theorem thawL_nil (i : Nat) (ds : List D) (j : Nat) : thawL i ds j [] [] = some [] := rfl
@[simp] theorem thL_own (ds : List D) (a b : Sl) : thL true ds a b = some (.v (.ls ds)) := rfl
@[simp] theorem thL_no (ds : List D) (b : Sl) : thL false ds .no b = some .no := rfl
@[simp] theorem thL_p (ds : List D) (d : D) (b : Sl) : thL false ds (.v (.p d)) b = some (.v (.p d)) := rfl
@[simp] theorem thL_ls (ds : List D) (d e : List D) : thL false ds (.v (.ls d)) (.v (.ls e)) = if scT (.ls e) then some (.v (.ls e)) else none := rfl
end G

namespace W_bandhems_k59_seats_gaps_and_stabs
open PySem PySem.Spec L2 G PyProof.Rows
def top (i : Nat) : Stmt := PySem.Challenge.pw_bandhems_k59_seats_gaps_and_stabs.main.body.getD i (.Pass ⟨0, 0, 0, 0⟩)
def fuel : Nat := 1000000
def c_LETTERS : D := (.str [97, 98, 99, 100, 101, 102, 103, 104, 105, 106, 107, 108])
section
variable {P : Program} {w : World} {K : PySem.W.Frag} {mg : Str → Option Value} {base : Heap} {cm : Cm} {f : Addr} {fd : FuncData}
abbrev s__law_well : Stmt := top 29
theorem sc__law_well : FnScope ["script", "turn", "own", "stir", "cell"] ["script", "turn"] (defScope s__law_well) := ⟨rfl, rfl, rfl, by decide +kernel, rfl, by decide +kernel, by decide +kernel⟩
def l__law_well_1 : Sm := (sAsg 3 (nVal (eOp cMod (eCb cInt (aCons (eOp cAdd (eOp cAdd (eOp cMul (eVar 3) (eC (.int 48271))) (eOp cMod (eCb cInt (aCons (eVar 4) aNil)) (eC (.int 2147483399)))) (eC (.int 53))) aNil)) (eC (.int 2147483563)))))
def b__law_well : Sm := (sSeq (sAsg 2 (nIf (bOf (eOp cLt (eVar 1) (eCb cLen (aCons (eVar 0) aNil)))) (nVal (eCb cInt (aCons (eIx (eVar 0) (eVar 1)) aNil))) (nVal (eOp cAdd (eOp cAdd (eOp cMul (eC (.int 7919)) (eVar 1)) (eOp cMod (eCb cInt (aCons (eCb cSumX (aCons (eSl (eVar 0) oNone (oSome (eC (.int 3)))) aNil)) aNil)) (eC (.int 1000003)))) (eC (.int 29))))))
    (sSeq (sAsg 3 (nVal (eOp cAdd (eC (.int 40127)) (eOp cMul (eC (.int 977)) (eVar 1)))))
    (sSeq (sFor (iSeq (eOp cAdd (eSl (eVar 0) oNone (oSome (eC (.int 6)))) (eFrz (nLst (aCons (eKeep 2) aNil))))) (hName 4) l__law_well_1)
    (sRet (nLst (aCons (eIf (bOr (bOf (eOp cLt (eVar 2) (eC (.int 0)))) (bOf (eOp cGe (eVar 2) (eOp cPow (eC (.int 10)) (eC (.int 17)))))) (eCb cAbs (aCons (eVar 2) aNil)) (eC (.int 0))) (aCons (eKeep 3) (aCons (eC (.int 0)) aNil))))))))
def m__law_well : Rho → Option (T × Rho) := runD 3 b__law_well
theorem w__law_well (D : Dn K mg "_law_well" s__law_well ["script", "turn"] f fd) (z_abs : mg "abs" = none) (z_int : mg "int" = none) (z_len : mg "len" = none) (z_sum : mg "sum" = none) : FnG P w K mg base cm 1 f fd ["script", "turn"] m__law_well := fd_ok D.F (N := ["script", "turn", "own", "stir", "cell"]) sc__law_well fun cdv A outer s H E hr => by
  have S := sc__law_well
  have hu := hu_of hr
  have hv := hr.units
  have hc : (cxOf CX0 P w K mg base ["script", "turn", "own", "stir", "cell"] "_law_well" (defScope s__law_well) f cdv A outer s H E).nox.calm = true := rfl
  exact (fss_cons (fs_asg (i := 2) S.nd rfl (by first | exact .inl rfl | exact .inr rfl) (fn_if (fb_cmp op_ltA ro_lt (fe_var (pv 1)) (fe_cb call_len rc_len rfl z_len (by decide +kernel) (fa_cons (fe_var (pv 0)) fa_nil)) (nomark _)) (fn_val (fe_ct call_int1 rc_int rfl z_int (by decide +kernel) (fa_cons (fe_ix hu (fe_var (pv 0)) (fe_var (pv 1))) fa_nil))) (fn_val (fe_op op_addA ro_add (fe_op op_addA ro_add (fe_op op_mulA ro_mul fe_int (fe_var (pv 1))) (fe_op op_mod ro_mod (fe_ct call_int1 rc_int rfl z_int (by decide +kernel) (fa_cons (fe_cb (cr_sumX hc) rc_sumX rfl z_sum (by decide +kernel) (fa_cons (fe_sl (fe_var (pv 0)) fo_none (fo_some fe_int)) fa_nil)) fa_nil)) fe_int)) fe_int))))
    (fss_cons (fs_asg (i := 3) S.nd rfl (by first | exact .inl rfl | exact .inr rfl) (fn_val (fe_op op_addA ro_add fe_int (fe_op op_mulA ro_mul fe_int (fe_var (pv 1))))))
    (fss_cons (fs_for PassesOwn.never hc (fi_seq (fe_op op_addA ro_add (fe_sl (fe_var (pv 0)) fo_none (fo_some fe_int)) (fe_frz (fn_lst (fa_cons (fe_keep (pv 2)) fa_nil))))) (fg_name (pg_name (i := 4) S.nd rfl (by first | exact .inl rfl | exact .inr rfl))) (fss_one (fs_asg (i := 3) S.nd rfl (by first | exact .inl rfl | exact .inr rfl) (fn_val (fe_op op_mod ro_mod (fe_ct call_int1 rc_int rfl z_int (by decide +kernel) (fa_cons (fe_op op_addA ro_add (fe_op op_addA ro_add (fe_op op_mulA ro_mul (fe_var (pv 3)) fe_int) (fe_op op_mod ro_mod (fe_ct call_int1 rc_int rfl z_int (by decide +kernel) (fa_cons (fe_var (pv 4)) fa_nil)) fe_int)) fe_int) fa_nil)) fe_int)))))
    (fss_one (fs_ret (fn_lst (fa_cons (fe_if (fb_w (fw_or (fb_cmp op_ltA ro_lt (fe_var (pv 2)) fe_int (nomark _)) (fw_one (fb_cmp op_geA ro_ge (fe_var (pv 2)) (fe_op op_pow ro_pow fe_int fe_int) (nomark _)) (by first | exact .inl rfl | exact .inr rfl)))) (fe_cb call_abs rc_abs rfl z_abs (by decide +kernel) (fa_cons (fe_var (pv 2)) fa_nil)) fe_int) (fa_cons (fe_keep (pv 3)) (fa_cons fe_int fa_nil)))))))))
abbrev s__law_take : Stmt := top 30
theorem sc__law_take : FnScope ["well", "many", "by", "figure"] ["well", "many"] (defScope s__law_take) := ⟨rfl, rfl, rfl, by decide +kernel, rfl, by decide +kernel, by decide +kernel⟩
def b__law_take : Sm := (sSeq (sIf (bOf (eOp cGt (eIx (eVar 0) (eC (.int 0))) (eC (.int 0)))) (sSeq (sT (eCb cDivmod (aCons (eIx (eVar 0) (eC (.int 0))) (aCons (eVar 1) aNil))) (hTup 2 (hCons (hSub 0 (eC (.int 0))) (hCons (hName 3) hNil))))
    (sRet (nMove 3))) sNil)
    (sSeq (sPut 0 (eOp cAdd (eIx (eVar 0) (eC (.int 2))) (eC (.int 1))) (eC (.int 2)))
    (sSeq (sAsg 2 (nVal (eOp cAdd (eOp cMod (eCb cInt (aCons (eIx (eVar 0) (eC (.int 1))) aNil)) (eC (.int 28657))) (eC (.int 40009)))))
    (sSeq (sPut 0 (eOp cMod (eCb cInt (aCons (eOp cAdd (eOp cAdd (eOp cMul (eIx (eVar 0) (eC (.int 1))) (eVar 2)) (eOp cMul (eC (.int 50023)) (eIx (eVar 0) (eC (.int 2))))) (eC (.int 17))) aNil)) (eC (.int 2147483563))) (eC (.int 1)))
    (sRet (nVal (eOp cMod (eCb cInt (aCons (eOp cDiv (eIx (eVar 0) (eC (.int 1))) (eC (.int 83))) aNil)) (eVar 1))))))))
def m__law_take : Rho → Option (T × Rho) := runD 2 b__law_take
theorem w__law_take (D : Dn K mg "_law_take" s__law_take ["well", "many"] f fd) (z_divmod : mg "divmod" = none) (z_int : mg "int" = none) : FnG P w K mg base cm 1 f fd ["well", "many"] m__law_take := fd_ok D.F (N := ["well", "many", "by", "figure"]) sc__law_take fun cdv A outer s H E hr => by
  have S := sc__law_take
  have hu := hu_of hr
  have hv := hr.units
  have hc : (cxOf CX0 P w K mg base ["well", "many", "by", "figure"] "_law_take" (defScope s__law_take) f cdv A outer s H E).nox.calm = true := rfl
  exact (fss_cons (fs_if (fb_cmp op_gtA ro_gt (fe_ix hu (fe_var (pv 0)) fe_int) fe_int (nomark _)) (fss_cons (fs_tgt (fe_cb call_divmod rc_divmod rfl z_divmod (by decide +kernel) (fa_cons (fe_ix hu (fe_var (pv 0)) fe_int) (fa_cons (fe_var (pv 1)) fa_nil))) (fg_tup hc (fgs_cons (fg_sub (pv 0) fe_int) (fgs_cons (fg_name (pg_name (i := 3) S.nd rfl (by first | exact .inl rfl | exact .inr rfl))) fgs_nil))))
    (fss_one (fs_ret (fn_move (pv 3))))) fss_nil)
    (fss_cons (fs_put (i := 0) hu (pv 0) fe_int (fe_op op_addA ro_add (fe_ix hu (fe_var (pv 0)) fe_int) fe_int))
    (fss_cons (fs_asg (i := 2) S.nd rfl (by first | exact .inl rfl | exact .inr rfl) (fn_val (fe_op op_addA ro_add (fe_op op_mod ro_mod (fe_ct call_int1 rc_int rfl z_int (by decide +kernel) (fa_cons (fe_ix hu (fe_var (pv 0)) fe_int) fa_nil)) fe_int) fe_int)))
    (fss_cons (fs_put (i := 0) hu (pv 0) fe_int (fe_op op_mod ro_mod (fe_ct call_int1 rc_int rfl z_int (by decide +kernel) (fa_cons (fe_op op_addA ro_add (fe_op op_addA ro_add (fe_op op_mulA ro_mul (fe_ix hu (fe_var (pv 0)) fe_int) (fe_var (pv 2))) (fe_op op_mulA ro_mul fe_int (fe_ix hu (fe_var (pv 0)) fe_int))) fe_int) fa_nil)) fe_int))
    (fss_one (fs_ret (fn_val (fe_op op_mod ro_mod (fe_ct call_int1 rc_int rfl z_int (by decide +kernel) (fa_cons (fe_op op_fdivW ro_div (fe_ix hu (fe_var (pv 0)) fe_int) fe_int) fa_nil)) (fe_var (pv 1))))))))))
abbrev s__law_pick : Stmt := top 31
theorem sc__law_pick : FnScope ["well", "some"] ["well", "some"] (defScope s__law_pick) := ⟨rfl, rfl, rfl, by decide +kernel, rfl, by decide +kernel, by decide +kernel⟩
def b__law_pick : Sm := (sRet (nVal (eIx (eVar 1) (eFrz (nCallO 2 0 m__law_take (aCons (eVar 0) (aCons (eCb cLen (aCons (eVar 1) aNil)) aNil)))))))
def m__law_pick : Rho → Option (T × Rho) := runD 0 b__law_pick
theorem w__law_pick (D : Dn K mg "_law_pick" s__law_pick ["well", "some"] f fd) (d__law_take : Dg P w K mg base cm 1 "_law_take" ["well", "many"] m__law_take) (z_len : mg "len" = none) : FnG P w K mg base cm 2 f fd ["well", "some"] m__law_pick := fd_ok D.F (N := ["well", "some"]) sc__law_pick fun cdv A outer s H E hr => by
  have S := sc__law_pick
  have hu := hu_of hr
  have hv := hr.units
  have hc : (cxOf CX0 P w K mg base ["well", "some"] "_law_pick" (defScope s__law_pick) f cdv A outer s H E).nox.calm = true := rfl
  exact (fss_one (fs_ret (fn_val (fe_ix hu (fe_var (pv 1)) (fe_frz (fn_callO (j0 := 0) d__law_take hr (by decide) (by rfl) (fa_cons (fe_var (pv 0)) (fa_cons (fe_cb call_len rc_len rfl z_len (by decide +kernel) (fa_cons (fe_var (pv 1)) fa_nil)) fa_nil))))))))
abbrev s__law_letters : Stmt := top 33
theorem sc__law_letters : FnScope ["well", "many", "left", "found", "k"] ["well", "many"] (defScope s__law_letters) := ⟨rfl, rfl, rfl, by decide +kernel, rfl, by decide +kernel, by decide +kernel⟩
def l__law_letters_1 : Sm := (sE (eMt 3 mApp (aCons (eMt 2 mPopAt (aCons (eFrz (nCallO 2 0 m__law_take (aCons (eVar 0) (aCons (eCb cLen (aCons (eVar 2) aNil)) aNil)))) aNil)) aNil)))
def b__law_letters : Sm := (sSeq (sPars [2, 3] (mCons (nCb cListX (aCons (eC (.str [97, 98, 99, 100, 101, 102, 103, 104, 105, 106, 107, 108])) aNil)) (mCons (nLst aNil) mNil)))
    (sSeq (sFor (iRng1 (aCons (eVar 1) aNil)) (hName 4) l__law_letters_1)
    (sRet (nMove 3))))
def m__law_letters : Rho → Option (T × Rho) := runD 3 b__law_letters
theorem w__law_letters (D : Dn K mg "_law_letters" s__law_letters ["well", "many"] f fd) (d__law_take : Dg P w K mg base cm 1 "_law_take" ["well", "many"] m__law_take) (z_len : mg "len" = none) (z_list : mg "list" = none) (z_range : mg "range" = none) : FnG P w K mg base cm 2 f fd ["well", "many"] m__law_letters := fd_ok D.F (N := ["well", "many", "left", "found", "k"]) sc__law_letters fun cdv A outer s H E hr => by
  have S := sc__law_letters
  have hu := hu_of hr
  have hv := hr.units
  have hc : (cxOf CX0 P w K mg base ["well", "many", "left", "found", "k"] "_law_letters" (defScope s__law_letters) f cdv A outer s H E).nox.calm = true := rfl
  exact (fss_cons (fs_pars2 (i := 2) (j := 3) hc S.nd rfl rfl (by decide) (fm_cons (fn_ct (call_listX hc) rc_listX rfl z_list (by decide +kernel) (fa_cons (fe_str (s := [97, 98, 99, 100, 101, 102, 103, 104, 105, 106, 107, 108]) (by decide +kernel)) fa_nil)) (fm_cons (fn_lst fa_nil) fm_nil)) rfl rfl)
    (fss_cons (fs_for PassesOwn.never hc (fi_rng1 rfl z_range (fa_cons (fe_var (pv 1)) fa_nil)) (fg_name (pg_name (i := 4) S.nd rfl (by first | exact .inl rfl | exact .inr rfl))) (fss_one (fs_expr (fe_mt PySem.F.slot_list_append PySem.F.type_list_append mt_append rm_app (pv 3) (fa_cons (fe_mt PySem.F.slot_list_pop PySem.F.type_list_pop mt_popAt rm_popAt (pv 2) (fa_cons (fe_frz (fn_callO (j0 := 0) d__law_take hr (by decide) (by rfl) (fa_cons (fe_var (pv 0)) (fa_cons (fe_cb call_len rc_len rfl z_len (by decide +kernel) (fa_cons (fe_var (pv 2)) fa_nil)) fa_nil)))) fa_nil)) fa_nil)))))
    (fss_one (fs_ret (fn_move (pv 3))))))
abbrev s__law_word : Stmt := top 34
theorem sc__law_word : FnScope ["well", "many", "some", "way", "signs_now", "letter", "first", "far", "second"] ["well", "many"] (defScope s__law_word) := ⟨rfl, rfl, rfl, by decide +kernel, rfl, by decide +kernel, by decide +kernel⟩
def l__law_word_1 : Sm := (sSeq (sAsg 6 (nCallO 2 0 m__law_take (aCons (eVar 0) (aCons (eOp cAdd (eCb cLen (aCons (eVar 4) aNil)) (eC (.int 1))) aNil))))
    (sSeq (sIf (bOf (eOp cEq (eVar 3) (eC (.int 0)))) (sAsg 6 (nVal (eOp cDiv (eCb cLen (aCons (eVar 4) aNil)) (eC (.int 2))))) sNil)
    (sSeq (sIf (bOf (eOp cEq (eVar 3) (eC (.int 1)))) (sAsg 6 (nVal (eCb cLen (aCons (eVar 4) aNil)))) sNil)
    (sSeq (sE (eMt 4 mIns (aCons (eKeep 6) (aCons (eKeep 5) aNil))))
    (sSeq (sAsg 7 (nCallO 2 0 m__law_pick (aCons (eVar 0) (aCons (eFrz (nLst (aCons (eC (.int 1)) (aCons (eC (.int 2)) (aCons (eC (.int 3)) (aCons (eC (.int 5)) aNil)))))) aNil))))
    (sSeq (sAsg 8 (nIf (bOf (eOp cGt (eVar 3) (eC (.int 2)))) (nCallO 2 0 m__law_take (aCons (eVar 0) (aCons (eOp cAdd (eCb cLen (aCons (eVar 4) aNil)) (eC (.int 1))) aNil))) (nVal (eCb cMin2 (aCons (eCb cLen (aCons (eVar 4) aNil)) (aCons (eOp cAdd (eOp cAdd (eVar 6) (eC (.int 1))) (eIf (bOf (eOp cLt (eVar 3) (eC (.int 2)))) (eFrz (nCallO 2 0 m__law_take (aCons (eVar 0) (aCons (eKeep 7) aNil)))) (eVar 7))) aNil))))))
    (sE (eMt 4 mIns (aCons (eKeep 8) (aCons (eKeep 5) aNil))))))))))
def b__law_word : Sm := (sSeq (sPars [2, 3, 4] (mCons (nCallO 2 0 m__law_letters (aCons (eVar 0) (aCons (eKeep 1) aNil))) (mCons (nCallO 2 0 m__law_take (aCons (eVar 0) (aCons (eC (.int 6)) aNil))) (mCons (nLst aNil) mNil))))
    (sSeq (sFor (iSeq (eKeep 2)) (hName 5) l__law_word_1)
    (sRet (nVal (eJoin (eC (.str [])) (eVar 4))))))
def m__law_word : Rho → Option (T × Rho) := runD 7 b__law_word
theorem w__law_word (D : Dn K mg "_law_word" s__law_word ["well", "many"] f fd) (d__law_take : Dg P w K mg base cm 1 "_law_take" ["well", "many"] m__law_take) (d__law_letters : Dg P w K mg base cm 2 "_law_letters" ["well", "many"] m__law_letters) (d__law_pick : Dg P w K mg base cm 2 "_law_pick" ["well", "some"] m__law_pick) (z_len : mg "len" = none) (z_min : mg "min" = none) : FnG P w K mg base cm 3 f fd ["well", "many"] m__law_word := fd_ok D.F (N := ["well", "many", "some", "way", "signs_now", "letter", "first", "far", "second"]) sc__law_word fun cdv A outer s H E hr => by
  have S := sc__law_word
  have hu := hu_of hr
  have hv := hr.units
  have hc : (cxOf CX0 P w K mg base ["well", "many", "some", "way", "signs_now", "letter", "first", "far", "second"] "_law_word" (defScope s__law_word) f cdv A outer s H E).nox.calm = true := rfl
  exact (fss_cons (fs_pars3 (i := 2) (j := 3) (l := 4) hc S.nd rfl rfl rfl (by decide) (by decide) (by decide) (fm_cons (fn_callO (j0 := 0) d__law_letters hr (by decide) (by rfl) (fa_cons (fe_var (pv 0)) (fa_cons (fe_keep (pv 1)) fa_nil))) (fm_cons (fn_callO (j0 := 0) d__law_take hr (by decide) (by rfl) (fa_cons (fe_var (pv 0)) (fa_cons fe_int fa_nil))) (fm_cons (fn_lst fa_nil) fm_nil))) rfl rfl rfl)
    (fss_cons (fs_for PassesOwn.never hc (fi_seq (fe_keep (pv 2))) (fg_name (pg_name (i := 5) S.nd rfl (by first | exact .inl rfl | exact .inr rfl))) (fss_cons (fs_asg (i := 6) S.nd rfl (by first | exact .inl rfl | exact .inr rfl) (fn_callO (j0 := 0) d__law_take hr (by decide) (by rfl) (fa_cons (fe_var (pv 0)) (fa_cons (fe_op op_addA ro_add (fe_cb call_len rc_len rfl z_len (by decide +kernel) (fa_cons (fe_var (pv 4)) fa_nil)) fe_int) fa_nil))))
    (fss_cons (fs_if (fb_cmp (op_eqD hv) ro_eq (fe_var (pv 3)) fe_int (nomark _)) (fss_one (fs_asg (i := 6) S.nd rfl (by first | exact .inl rfl | exact .inr rfl) (fn_val (fe_op op_fdivW ro_div (fe_cb call_len rc_len rfl z_len (by decide +kernel) (fa_cons (fe_var (pv 4)) fa_nil)) fe_int)))) fss_nil)
    (fss_cons (fs_if (fb_cmp (op_eqD hv) ro_eq (fe_var (pv 3)) fe_int (nomark _)) (fss_one (fs_asg (i := 6) S.nd rfl (by first | exact .inl rfl | exact .inr rfl) (fn_val (fe_cb call_len rc_len rfl z_len (by decide +kernel) (fa_cons (fe_var (pv 4)) fa_nil))))) fss_nil)
    (fss_cons (fs_expr (fe_mt PySem.F.slot_list_insert PySem.F.type_list_insert mt_insert rm_ins (pv 4) (fa_cons (fe_keep (pv 6)) (fa_cons (fe_keep (pv 5)) fa_nil))))
    (fss_cons (fs_asg (i := 7) S.nd rfl (by first | exact .inl rfl | exact .inr rfl) (fn_callO (j0 := 0) d__law_pick hr (by decide) (by rfl) (fa_cons (fe_var (pv 0)) (fa_cons (fe_frz (fn_lst (fa_cons fe_int (fa_cons fe_int (fa_cons fe_int (fa_cons fe_int fa_nil)))))) fa_nil))))
    (fss_cons (fs_asg (i := 8) S.nd rfl (by first | exact .inl rfl | exact .inr rfl) (fn_if (fb_cmp op_gtA ro_gt (fe_var (pv 3)) fe_int (nomark _)) (fn_callO (j0 := 0) d__law_take hr (by decide) (by rfl) (fa_cons (fe_var (pv 0)) (fa_cons (fe_op op_addA ro_add (fe_cb call_len rc_len rfl z_len (by decide +kernel) (fa_cons (fe_var (pv 4)) fa_nil)) fe_int) fa_nil))) (fn_val (fe_cb (call_min2 hc) rc_min2 rfl z_min (by decide +kernel) (fa_cons (fe_cb call_len rc_len rfl z_len (by decide +kernel) (fa_cons (fe_var (pv 4)) fa_nil)) (fa_cons (fe_op op_addA ro_add (fe_op op_addA ro_add (fe_var (pv 6)) fe_int) (fe_if (fb_cmp op_ltA ro_lt (fe_var (pv 3)) fe_int (nomark _)) (fe_frz (fn_callO (j0 := 0) d__law_take hr (by decide) (by rfl) (fa_cons (fe_var (pv 0)) (fa_cons (fe_keep (pv 7)) fa_nil)))) (fe_var (pv 7)))) fa_nil))))))
    (fss_one (fs_expr (fe_mt PySem.F.slot_list_insert PySem.F.type_list_insert mt_insert rm_ins (pv 4) (fa_cons (fe_keep (pv 8)) (fa_cons (fe_keep (pv 5)) fa_nil))))))))))))
    (fss_one (fs_ret (fn_val (fe_join (fe_str (s := []) (by decide +kernel)) (fe_var (pv 4))))))))
abbrev s__law_own : Stmt := top 36
theorem sc__law_own : FnScope ["word"] ["word"] (defScope s__law_own) := ⟨rfl, rfl, rfl, by decide +kernel, rfl, by decide +kernel, by decide +kernel⟩
def b__law_own : Sm := (sRet (nSset (eVar 0)))
def m__law_own : Rho → Option (T × Rho) := runD 0 b__law_own
theorem w__law_own (D : Dn K mg "_law_own" s__law_own ["word"] f fd) (z_set : mg "set" = none) (z_sorted : mg "sorted" = none) : FnG P w K mg base cm 1 f fd ["word"] m__law_own := fd_ok D.F (N := ["word"]) sc__law_own fun cdv A outer s H E hr => by
  have S := sc__law_own
  have hu := hu_of hr
  have hv := hr.units
  have hc : (cxOf CX0 P w K mg base ["word"] "_law_own" (defScope s__law_own) f cdv A outer s H E).nox.calm = true := rfl
  exact (fss_one (fs_ret (fn_sset hc rfl z_sorted rfl z_set (fe_var (pv 0)))))
abbrev s_is_text_of : Stmt := top 1
theorem sc_is_text_of : FnScope ["value", "signs", "sign"] ["value", "signs"] (defScope s_is_text_of) := ⟨rfl, rfl, rfl, by decide +kernel, rfl, by decide +kernel, by decide +kernel⟩
def e_is_text_of_1 : Em := (eOp cInA (eVar 2) (eVar 1))
def b_is_text_of : Sm := (sRet (nVal (eAnd (eIsi "str" (eVar 0)) (eCb cAll (aCons (eFrz (nLc [2] (iSeq (eKeep 0)) (hName 2) bYes e_is_text_of_1)) aNil)))))
def m_is_text_of : Rho → Option (T × Rho) := runD 1 b_is_text_of
theorem w_is_text_of (D : Dn K mg "is_text_of" s_is_text_of ["value", "signs"] f fd) (z_all : mg "all" = none) (z_isinstance : mg "isinstance" = none) (z_str : mg "str" = none) : FnG P w K mg base cm 1 f fd ["value", "signs"] m_is_text_of := fd_ok D.F (N := ["value", "signs", "sign"]) sc_is_text_of fun cdv A outer s H E hr => by
  have S := sc_is_text_of
  have hu := hu_of hr
  have hv := hr.units
  have hc : (cxOf CX0 P w K mg base ["value", "signs", "sign"] "is_text_of" (defScope s_is_text_of) f cdv A outer s H E).nox.calm = true := rfl
  exact (fss_one (fs_ret (fn_val (fe_and (fe_isi (T := "str") rfl rfl z_isinstance (by decide +kernel) (fe_var (pv 0)) (pe_bltn rfl z_str (by decide +kernel) rfl)) (fe_one (fe_cb (cr_all hc) rc_all rfl z_all (by decide +kernel) (fa_cons (fe_frz (fn_lc (own := [("sign", 2)]) hc S.nd (fi_seq (fe_keep (pv 0))) (blkOk_by (by rfl)) (fun _ _ _ _ _ => (fg_name (pg_name (i := 2) S.nd rfl (by first | exact .inl rfl | exact .inr rfl)))) (fun _ _ _ _ _ => fts_nil) (fun _ _ _ _ _ => (fe_cmp op_inA ro_in (fe_var (pv 2)) (fe_var (pv 1)) (by with_unfolding_all rfl))) (by decide))) fa_nil)))))))
abbrev s_is_worded : Stmt := top 4
theorem sc_is_worded : FnScope ["value", "letter"] ["value"] (defScope s_is_worded) := ⟨rfl, rfl, rfl, by decide +kernel, rfl, by decide +kernel, by decide +kernel⟩
def e_is_worded_1 : Em := (eOp cInA (eTm cCount (eVar 0) (eVar 1)) (eTup (aCons (eC (.int 0)) (aCons (eC (.int 2)) aNil))))
def b_is_worded : Sm := (sRet (nVal (eAnd (eFrz (nCall 2 m_is_text_of (aCons (eKeep 0) (aCons (eC c_LETTERS) aNil)))) (eCb cAll (aCons (eFrz (nLc [1] (iSeq (eC c_LETTERS)) (hName 1) bYes e_is_worded_1)) aNil)))))
def m_is_worded : Rho → Option (T × Rho) := runD 1 b_is_worded
theorem w_is_worded (D : Dn K mg "is_worded" s_is_worded ["value"] f fd) (d_is_text_of : Dg P w K mg base cm 1 "is_text_of" ["value", "signs"] m_is_text_of) (z_all : mg "all" = none) (k_LETTERS : KC K cm mg "LETTERS" c_LETTERS) : FnG P w K mg base cm 2 f fd ["value"] m_is_worded := fd_ok D.F (N := ["value", "letter"]) sc_is_worded fun cdv A outer s H E hr => by
  have S := sc_is_worded
  have hu := hu_of hr
  have hv := hr.units
  have hc : (cxOf CX0 P w K mg base ["value", "letter"] "is_worded" (defScope s_is_worded) f cdv A outer s H E).nox.calm = true := rfl
  exact (fss_one (fs_ret (fn_val (fe_and (fe_frz (fn_call d_is_text_of hr (by decide) (by rfl) (fa_cons (fe_keep (pv 0)) (fa_cons (KC.fe k_LETTERS rfl) fa_nil)))) (fe_one (fe_cb (cr_all hc) rc_all rfl z_all (by decide +kernel) (fa_cons (fe_frz (fn_lc (own := [("letter", 1)]) hc S.nd (fi_seq (KC.fe k_LETTERS rfl)) (blkOk_by (by rfl)) (fun _ _ _ _ _ => (fg_name (pg_name (i := 1) S.nd rfl (by first | exact .inl rfl | exact .inr rfl)))) (fun _ _ _ _ _ => fts_nil) (fun _ _ _ _ _ => (fe_cmp op_inA ro_in (fe_tm PySem.F.slot_str_count PySem.F.type_str_count mt_count rt_count (fe_var (pv 0)) (fe_var (pv 1))) (fe_tup (fa_cons fe_int (fa_cons fe_int fa_nil))) (by with_unfolding_all rfl))) (by decide))) fa_nil)))))))
abbrev s_check_word : Stmt := top 22
theorem sc_check_word : FnScope ["word"] ["word"] (defScope s_check_word) := ⟨rfl, rfl, rfl, by decide +kernel, rfl, by decide +kernel, by decide +kernel⟩
def b_check_word : Sm := (sIf (bNot (bOf (eFrz (nCall 1 m_is_worded (aCons (eKeep 0) aNil))))) sNever sNil)
def m_check_word : Rho → Option (T × Rho) := runD 0 b_check_word
theorem w_check_word (D : Dn K mg "check_word" s_check_word ["word"] f fd) (d_is_worded : Dg P w K mg base cm 2 "is_worded" ["value"] m_is_worded) : FnG P w K mg base cm 3 f fd ["word"] m_check_word := fd_ok D.F (N := ["word"]) sc_check_word fun cdv A outer s H E hr => by
  have S := sc_check_word
  have hu := hu_of hr
  have hv := hr.units
  have hc : (cxOf CX0 P w K mg base ["word"] "check_word" (defScope s_check_word) f cdv A outer s H E).nox.calm = true := rfl
  exact (fss_one (fs_if (fb_not (fb_val (fe_frz (fn_call d_is_worded hr (by decide) (by rfl) (fa_cons (fe_keep (pv 0)) fa_nil))))) (fss_one fs_never) fss_nil))
abbrev s_by_first_ends : Stmt := top 8
theorem sc_by_first_ends : FnScope ["ends"] ["ends"] (defScope s_by_first_ends) := ⟨rfl, rfl, rfl, by decide +kernel, rfl, by decide +kernel, by decide +kernel⟩
def k_by_first_ends_1 : Em := (eIx (eIx (eVar 1) (eVar 0)) (eC (.int 0)))
def b_by_first_ends : Sm := (sRet (nSortK 0 [0] k_by_first_ends_1))
def m_by_first_ends : Rho → Option (T × Rho) := runD 0 b_by_first_ends
theorem w_by_first_ends (D : Dn K mg "by_first_ends" s_by_first_ends ["ends"] f fd) (z_sorted : mg "sorted" = none) {c Pt : Addr} (TB : LamX.TabB base mg c Pt) (hcd : fd.code = .ref c) (hmT : (Pt, ("by_first_ends.<locals>.<lambda>" : Str)) ∈ cm.T) (huT : ∀ p ∈ cm.T, p.1 = Pt → p.2 = ("by_first_ends.<locals>.<lambda>" : Str)) : FnG P w K mg base cm 4 f fd ["ends"] m_by_first_ends := fd_okT D.F (N := ["ends"]) sc_by_first_ends fun A outer s H E hr => by
  have S := sc_by_first_ends
  have hu := hu_of hr
  have hv := hr.units
  have hc : (cxOf CX0 P w K mg base ["ends"] "by_first_ends" (defScope s_by_first_ends) f fd.code A outer s H E).nox.calm = true := rfl
  exact (fss_one (fs_ret (fn_sortK (i := 0) (js := [0]) (fr := ["ends"]) (a := "letter") (k := 0) hc rfl z_sorted (pv 0) TB hcd hmT huT hr (NdefX.nscope_by (by decide +kernel)) (free_by (by rfl)) (by decide +kernel) rfl rfl (fun _ _ _ _ _ _ => rfl) fun A outer s H f c' hrm => by
    have hu := hu_of hrm
    exact (fe_ix hu (fe_ix hu (fe_var (pv 1)) (fe_var (pv 0))) fe_int))))
abbrev s_as_told : Stmt := top 9
theorem sc_as_told : FnScope ["ends", "numbers", "letter"] ["ends", "numbers"] (defScope s_as_told) := ⟨rfl, rfl, rfl, by decide +kernel, rfl, by decide +kernel, by decide +kernel⟩
def e_as_told_1 : Em := (eIx (eVar 1) (eVar 2))
def b_as_told : Sm := (sRet (nVal (eCb cTuple (aCons (eFrz (nLc [2] (iKey 0) (hName 2) bYes e_as_told_1)) aNil))))
def m_as_told : Rho → Option (T × Rho) := runD 1 b_as_told
theorem w_as_told (D : Dn K mg "as_told" s_as_told ["ends", "numbers"] f fd) (z_tuple : mg "tuple" = none) : FnG P w K mg base cm 1 f fd ["ends", "numbers"] m_as_told := fd_ok D.F (N := ["ends", "numbers", "letter"]) sc_as_told fun cdv A outer s H E hr => by
  have S := sc_as_told
  have hu := hu_of hr
  have hv := hr.units
  have hc : (cxOf CX0 P w K mg base ["ends", "numbers", "letter"] "as_told" (defScope s_as_told) f cdv A outer s H E).nox.calm = true := rfl
  exact (fss_one (fs_ret (fn_val (fe_ct call_tuple_of rc_tuple rfl z_tuple (by decide +kernel) (fa_cons (fe_frz (fn_lcK (own := [("letter", 2)]) hc S.nd (pv 0) (blkOk_by (by rfl)) (fun _ _ _ _ _ => (fg_name (pg_name (i := 2) S.nd rfl (by first | exact .inl rfl | exact .inr rfl)))) (fun _ _ _ _ _ => fts_nil) (fun _ _ _ _ _ => (fe_ix hu (fe_var (pv 1)) (fe_var (pv 2)))) (by decide))) fa_nil)))))
abbrev s_letters_by : Stmt := top 5
theorem sc_letters_by : FnScope ["word"] ["word"] (defScope s_letters_by) := ⟨rfl, rfl, rfl, by decide +kernel, rfl, by decide +kernel, by decide +kernel⟩
def b_letters_by : Sm := (sRet (nVal (eJoin (eC (.str [])) (eFrz (nSset (eVar 0))))))
def m_letters_by : Rho → Option (T × Rho) := runD 0 b_letters_by
theorem w_letters_by (D : Dn K mg "letters_by" s_letters_by ["word"] f fd) (z_set : mg "set" = none) (z_sorted : mg "sorted" = none) : FnG P w K mg base cm 1 f fd ["word"] m_letters_by := fd_ok D.F (N := ["word"]) sc_letters_by fun cdv A outer s H E hr => by
  have S := sc_letters_by
  have hu := hu_of hr
  have hv := hr.units
  have hc : (cxOf CX0 P w K mg base ["word"] "letters_by" (defScope s_letters_by) f cdv A outer s H E).nox.calm = true := rfl
  exact (fss_one (fs_ret (fn_val (fe_join (fe_str (s := []) (by decide +kernel)) (fe_frz (fn_sset hc rfl z_sorted rfl z_set (fe_var (pv 0))))))))
abbrev s_ends_by : Stmt := top 6
theorem sc_ends_by : FnScope ["word", "letter"] ["word"] (defScope s_ends_by) := ⟨rfl, rfl, rfl, by decide +kernel, rfl, by decide +kernel, by decide +kernel⟩
def e_ends_by_1 : Em := (eTup (aCons (eTm cIndex (eVar 0) (eVar 1)) (aCons (eTm cRindex (eVar 0) (eVar 1)) aNil)))
def b_ends_by : Sm := (sRet (nDc [1] (iSeq (eFrz (nCall 1 m_letters_by (aCons (eKeep 0) aNil)))) (hName 1) bYes (eVar 1) e_ends_by_1))
def m_ends_by : Rho → Option (T × Rho) := runD 1 b_ends_by
theorem w_ends_by (D : Dn K mg "ends_by" s_ends_by ["word"] f fd) (d_letters_by : Dg P w K mg base cm 1 "letters_by" ["word"] m_letters_by) : FnG P w K mg base cm 2 f fd ["word"] m_ends_by := fd_ok D.F (N := ["word", "letter"]) sc_ends_by fun cdv A outer s H E hr => by
  have S := sc_ends_by
  have hu := hu_of hr
  have hv := hr.units
  have hc : (cxOf CX0 P w K mg base ["word", "letter"] "ends_by" (defScope s_ends_by) f cdv A outer s H E).nox.calm = true := rfl
  exact (fss_one (fs_ret (fn_dc (own := [("letter", 1)]) hc S.nd (fi_seq (fe_frz (fn_call d_letters_by hr (by decide) (by rfl) (fa_cons (fe_keep (pv 0)) fa_nil)))) (blkOk_by (by rfl)) (fun _ _ _ _ _ => (fg_name (pg_name (i := 1) S.nd rfl (by first | exact .inl rfl | exact .inr rfl)))) (fun _ _ _ _ _ => fts_nil) (fun _ _ _ _ _ => (fe_var (pv 1))) (fun _ _ _ _ _ => (fe_tup (fa_cons (fe_tm PySem.F.slot_str_index PySem.F.type_str_index mt_sindex rt_index (fe_var (pv 0)) (fe_var (pv 1))) (fa_cons (fe_tm PySem.F.slot_str_rindex PySem.F.type_str_rindex mt_rix rt_rindex (fe_var (pv 0)) (fe_var (pv 1))) fa_nil)))) (by decide))))
abbrev s_least_free : Stmt := top 12
theorem sc_least_free : FnScope ["taken", "found"] ["taken"] (defScope s_least_free) := ⟨rfl, rfl, rfl, by decide +kernel, rfl, by decide +kernel, by decide +kernel⟩
def t_least_free_1 : Bm := (bOf (eOp cInA (eVar 1) (eVar 0)))
def l_least_free_2 : Sm := (sAsg 1 (nVal (eOp cAdd (eVar 1) (eC (.int 1)))))
def b_least_free : Sm := (sSeq (sAsg 1 (nVal (eC (.int 0))))
    (sSeq (whileF t_least_free_1 l_least_free_2 fuel)
    (sRet (nMove 1))))
def m_least_free : Rho → Option (T × Rho) := runD 1 b_least_free
theorem w_least_free (D : Dn K mg "least_free" s_least_free ["taken"] f fd)  : FnG P w K mg base cm 1 f fd ["taken"] m_least_free := fd_ok D.F (N := ["taken", "found"]) sc_least_free fun cdv A outer s H E hr => by
  have S := sc_least_free
  have hu := hu_of hr
  have hv := hr.units
  have hc : (cxOf CX0 P w K mg base ["taken", "found"] "least_free" (defScope s_least_free) f cdv A outer s H E).nox.calm = true := rfl
  exact (fss_cons (fs_asg (i := 1) S.nd rfl (by first | exact .inl rfl | exact .inr rfl) (fn_val fe_int))
    (fss_cons (fs_while (N := fuel) PassesOwn.never (fb_cmp op_inA ro_in (fe_var (pv 1)) (fe_var (pv 0)) (by with_unfolding_all rfl)) (fss_one (fs_asg (i := 1) S.nd rfl (by first | exact .inl rfl | exact .inr rfl) (fn_val (fe_op op_addA ro_add (fe_var (pv 1)) fe_int)))))
    (fss_one (fs_ret (fn_move (pv 1))))))
abbrev s_is_open : Stmt := top 10
theorem sc_is_open : FnScope ["ends", "letter", "gap"] ["ends", "letter", "gap"] (defScope s_is_open) := ⟨rfl, rfl, rfl, by decide +kernel, rfl, by decide +kernel, by decide +kernel⟩
def b_is_open : Sm := (sRet (nVal (eChain cLe cLt (eIx (eIx (eVar 0) (eVar 1)) (eC (.int 0))) (eVar 2) (eIx (eIx (eVar 0) (eVar 1)) (eC (.int 1))))))
def m_is_open : Rho → Option (T × Rho) := runD 0 b_is_open
theorem w_is_open (D : Dn K mg "is_open" s_is_open ["ends", "letter", "gap"] f fd)  : FnG P w K mg base cm 1 f fd ["ends", "letter", "gap"] m_is_open := fd_ok D.F (N := ["ends", "letter", "gap"]) sc_is_open fun cdv A outer s H E hr => by
  have S := sc_is_open
  have hu := hu_of hr
  have hv := hr.units
  have hc : (cxOf CX0 P w K mg base ["ends", "letter", "gap"] "is_open" (defScope s_is_open) f cdv A outer s H E).nox.calm = true := rfl
  exact (fss_one (fs_ret (fn_val (fe_chain op_leA op_ltA ro_le ro_lt (fe_ix hu (fe_ix hu (fe_var (pv 0)) (fe_var (pv 1))) fe_int) (fe_var (pv 2)) (fe_ix hu (fe_ix hu (fe_var (pv 0)) (fe_var (pv 1))) fe_int)))))
abbrev s_seats_by : Stmt := top 13
theorem sc_seats_by : FnScope ["word", "ends", "found", "letter", "taken", "other", "seat"] ["word"] (defScope s_seats_by) := ⟨rfl, rfl, rfl, by decide +kernel, rfl, by decide +kernel, by decide +kernel⟩
def e_seats_by_1 : Em := (eKeep 6)
def l_seats_by_2 : Sm := (sSeq (sAsg 4 (nLcO [5, 6] itemsD 2 (hTup 2 (hCons (hName 5) (hCons (hName 6) hNil))) (bOf (eFrz (nCall 3 m_is_open (aCons (eKeep 1) (aCons (eKeep 5) (aCons (eIx (eIx (eVar 1) (eVar 3)) (eC (.int 0))) aNil)))))) e_seats_by_1))
    (sPut 2 (eFrz (nCall 1 m_least_free (aCons (eKeep 4) aNil))) (eVar 3)))
def b_seats_by : Sm := (sSeq (sPars [1, 2] (mCons (nCall 1 m_ends_by (aCons (eKeep 0) aNil)) (mCons nDic0 mNil)))
    (sSeq (sFor (iSeq (eFrz (nCall 1 m_by_first_ends (aCons (eKeep 1) aNil)))) (hName 3) l_seats_by_2)
    (sRet (nCall 2 m_as_told (aCons (eKeep 1) (aCons (eKeep 2) aNil))))))
def m_seats_by : Rho → Option (T × Rho) := runD 6 b_seats_by
theorem w_seats_by (D : Dn K mg "seats_by" s_seats_by ["word"] f fd) (d_ends_by : Dg P w K mg base cm 2 "ends_by" ["word"] m_ends_by) (d_by_first_ends : Dg P w K mg base cm 4 "by_first_ends" ["ends"] m_by_first_ends) (d_is_open : Dg P w K mg base cm 1 "is_open" ["ends", "letter", "gap"] m_is_open) (d_least_free : Dg P w K mg base cm 1 "least_free" ["taken"] m_least_free) (d_as_told : Dg P w K mg base cm 1 "as_told" ["ends", "numbers"] m_as_told) : FnG P w K mg base cm 5 f fd ["word"] m_seats_by := fd_ok D.F (N := ["word", "ends", "found", "letter", "taken", "other", "seat"]) sc_seats_by fun cdv A outer s H E hr => by
  have S := sc_seats_by
  have hu := hu_of hr
  have hv := hr.units
  have hc : (cxOf CX0 P w K mg base ["word", "ends", "found", "letter", "taken", "other", "seat"] "seats_by" (defScope s_seats_by) f cdv A outer s H E).nox.calm = true := rfl
  exact (fss_cons (fs_parsT (is := [1, 2]) hc (fm_cons (fn_call d_ends_by hr (by decide) (by rfl) (fa_cons (fe_keep (pv 0)) fa_nil)) (fm_cons fn_dic0 fm_nil)) (pgn_cons (pg_name (i := 1) S.nd rfl (by first | exact .inl rfl | exact .inr rfl)) (pgn_cons (pg_name (i := 2) S.nd rfl (by first | exact .inl rfl | exact .inr rfl)) pgn_nil)))
    (fss_cons (fs_for PassesOwn.never hc (fi_seq (fe_frz (fn_call d_by_first_ends hr (by decide) (by rfl) (fa_cons (fe_keep (pv 1)) fa_nil)))) (fg_name (pg_name (i := 3) S.nd rfl (by first | exact .inl rfl | exact .inr rfl))) (fss_cons (fs_setLcOI (i := 4) (own := [("other", 5), ("seat", 6)]) hc S.nd rfl rfl rfl (pv 2) (blkOk_by (by rfl)) (fun _ _ _ _ _ => (fg_tup hc (fgs_cons (fg_name (pg_name (i := 5) S.nd rfl (by first | exact .inl rfl | exact .inr rfl))) (fgs_cons (fg_name (pg_name (i := 6) S.nd rfl (by first | exact .inl rfl | exact .inr rfl))) fgs_nil)))) (fun _ _ _ _ _ => (fts_one (fb_val (fe_frz (fn_call d_is_open hr (by decide) (by rfl) (fa_cons (fe_keep (pv 1)) (fa_cons (fe_keep (pv 5)) (fa_cons (fe_ix hu (fe_ix hu (fe_var (pv 1)) (fe_var (pv 3))) fe_int) fa_nil)))))))) (fun _ _ _ _ _ => (fe_keep (pv 6))) (by decide))
    (fss_one (fs_put (i := 2) hu (pv 2) (fe_var (pv 3)) (fe_frz (fn_call d_least_free hr (by decide) (by rfl) (fa_cons (fe_keep (pv 4)) fa_nil)))))))
    (fss_one (fs_ret (fn_call d_as_told hr (by decide) (by rfl) (fa_cons (fe_keep (pv 1)) (fa_cons (fe_keep (pv 2)) fa_nil)))))))
abbrev s_seats : Stmt := top 24
theorem sc_seats : FnScope ["word"] ["word"] (defScope s_seats) := ⟨rfl, rfl, rfl, by decide +kernel, rfl, by decide +kernel, by decide +kernel⟩
def b_seats : Sm := (sSeq (sE (eFrz (nCall 1 m_check_word (aCons (eKeep 0) aNil))))
    (sRet (nCall 1 m_seats_by (aCons (eKeep 0) aNil))))
def m_seats : Rho → Option (T × Rho) := runD 0 b_seats
theorem w_seats (D : Dn K mg "seats" s_seats ["word"] f fd) (d_check_word : Dg P w K mg base cm 3 "check_word" ["word"] m_check_word) (d_seats_by : Dg P w K mg base cm 5 "seats_by" ["word"] m_seats_by) : FnG P w K mg base cm 6 f fd ["word"] m_seats := fd_ok D.F (N := ["word"]) sc_seats fun cdv A outer s H E hr => by
  have S := sc_seats
  have hu := hu_of hr
  have hv := hr.units
  have hc : (cxOf CX0 P w K mg base ["word"] "seats" (defScope s_seats) f cdv A outer s H E).nox.calm = true := rfl
  exact (fss_cons (fs_expr (fe_frz (fn_call d_check_word hr (by decide) (by rfl) (fa_cons (fe_keep (pv 0)) fa_nil))))
    (fss_one (fs_ret (fn_call d_seats_by hr (by decide) (by rfl) (fa_cons (fe_keep (pv 0)) fa_nil)))))
abbrev s__law_seats : Stmt := top 40
theorem sc__law_seats : FnScope ["word", "taken", "found", "sign", "left", "letter", "seat"] ["word"] (defScope s__law_seats) := ⟨rfl, rfl, rfl, by decide +kernel, rfl, by decide +kernel, by decide +kernel⟩
def e__law_seats_1 : Em := (eKeep 6)
def l__law_seats_2 : Sm := (sIf (bOf (eOp cInD (eVar 3) (eVar 1))) (sE (eDPop 1 (eVar 3))) (sSeq (sAsg 4 (nLc [6] (iRng1 (aCons (eCb cLen (aCons (eVar 0) aNil)) aNil)) (hName 6) (bOf (eOp cNi (eVar 6) (eFrz (nListV (eVar 1))))) e__law_seats_1))
    (sT (eTup (aCons (eIx (eVar 4) (eC (.int 0))) (aCons (eIx (eVar 4) (eC (.int 0))) aNil))) (hTup 2 (hCons (hSubD 1 (eVar 3)) (hCons (hSubD 2 (eVar 3)) hNil))))))
def e__law_seats_3 : Em := (eIx (eVar 2) (eVar 5))
def b__law_seats : Sm := (sSeq (sPars [1, 2] (mCons nDic0 (mCons nDic0 mNil)))
    (sSeq (sFor (iSeq (eKeep 0)) (hName 3) l__law_seats_2)
    (sRet (nVal (eCb cTuple (aCons (eFrz (nLc [5] (iSeq (eFrz (nCall 1 m__law_own (aCons (eKeep 0) aNil)))) (hName 5) bYes e__law_seats_3)) aNil))))))
def m__law_seats : Rho → Option (T × Rho) := runD 6 b__law_seats
theorem w__law_seats (D : Dn K mg "_law_seats" s__law_seats ["word"] f fd) (d__law_own : Dg P w K mg base cm 1 "_law_own" ["word"] m__law_own) (z_len : mg "len" = none) (z_list : mg "list" = none) (z_range : mg "range" = none) (z_tuple : mg "tuple" = none) : FnG P w K mg base cm 2 f fd ["word"] m__law_seats := fd_ok D.F (N := ["word", "taken", "found", "sign", "left", "letter", "seat"]) sc__law_seats fun cdv A outer s H E hr => by
  have S := sc__law_seats
  have hu := hu_of hr
  have hv := hr.units
  have hc : (cxOf CX0 P w K mg base ["word", "taken", "found", "sign", "left", "letter", "seat"] "_law_seats" (defScope s__law_seats) f cdv A outer s H E).nox.calm = true := rfl
  exact (fss_cons (fs_parsT (is := [1, 2]) hc (fm_cons fn_dic0 (fm_cons fn_dic0 fm_nil)) (pgn_cons (pg_name (i := 1) S.nd rfl (by first | exact .inl rfl | exact .inr rfl)) (pgn_cons (pg_name (i := 2) S.nd rfl (by first | exact .inl rfl | exact .inr rfl)) pgn_nil)))
    (fss_cons (fs_for PassesOwn.never hc (fi_seq (fe_keep (pv 0))) (fg_name (pg_name (i := 3) S.nd rfl (by first | exact .inl rfl | exact .inr rfl))) (fss_one (fs_if (fb_cmp (op_inDict hu) ro_inDict (fe_var (pv 3)) (fe_var (pv 1)) (by with_unfolding_all rfl)) (fss_one (fs_expr (fe_dpop (pv 1) (fe_var (pv 3)) ⟨rfl, rfl, rfl, rfl⟩))) (fss_cons (fs_setLc (i := 4) (own := [("seat", 6)]) hc S.nd rfl rfl rfl (fi_rng1 rfl z_range (fa_cons (fe_cb call_len rc_len rfl z_len (by decide +kernel) (fa_cons (fe_var (pv 0)) fa_nil)) fa_nil)) (blkOk_by (by rfl)) (fun _ _ _ _ _ => (fg_name (pg_name (i := 6) S.nd rfl (by first | exact .inl rfl | exact .inr rfl)))) (fun _ _ _ _ _ => (fts_one (fb_cmp op_ninA ro_nin (fe_var (pv 6)) (fe_frz (fn_listV hc rfl z_list (fe_var (pv 1)))) (by with_unfolding_all rfl)))) (fun _ _ _ _ _ => (fe_keep (pv 6))) (by decide))
    (fss_one (fs_tgt (fe_tup (fa_cons (fe_ix hu (fe_var (pv 4)) fe_int) (fa_cons (fe_ix hu (fe_var (pv 4)) fe_int) fa_nil))) (fg_tup hc (fgs_cons (fg_subD hu (pv 1) (fe_var (pv 3))) (fgs_cons (fg_subD hu (pv 2) (fe_var (pv 3))) fgs_nil)))))))))
    (fss_one (fs_ret (fn_val (fe_ct call_tuple_of rc_tuple rfl z_tuple (by decide +kernel) (fa_cons (fe_frz (fn_lc (own := [("letter", 5)]) hc S.nd (fi_seq (fe_frz (fn_call d__law_own hr (by decide) (by rfl) (fa_cons (fe_keep (pv 0)) fa_nil)))) (blkOk_by (by rfl)) (fun _ _ _ _ _ => (fg_name (pg_name (i := 5) S.nd rfl (by first | exact .inl rfl | exact .inr rfl)))) (fun _ _ _ _ _ => fts_nil) (fun _ _ _ _ _ => (fe_ix hu (fe_var (pv 2)) (fe_var (pv 5)))) (by decide))) fa_nil)))))))
abbrev s__law_spans : Stmt := top 35
theorem sc__law_spans : FnScope ["word", "found", "k"] ["word"] (defScope s__law_spans) := ⟨rfl, rfl, rfl, by decide +kernel, rfl, by decide +kernel, by decide +kernel⟩
def l__law_spans_1 : Sm := (sPut 1 (eOp cAdd (eGet2 (eVar 1) (eIx (eVar 0) (eVar 2)) (eTup aNil)) (eTup (aCons (eKeep 2) aNil))) (eIx (eVar 0) (eVar 2)))
def b__law_spans : Sm := (sSeq (sAsg 1 nDic0)
    (sSeq (sFor (iRng1 (aCons (eCb cLen (aCons (eVar 0) aNil)) aNil)) (hName 2) l__law_spans_1)
    (sRet (nMove 1))))
def m__law_spans : Rho → Option (T × Rho) := runD 2 b__law_spans
theorem w__law_spans (D : Dn K mg "_law_spans" s__law_spans ["word"] f fd) (z_len : mg "len" = none) (z_range : mg "range" = none) : FnG P w K mg base cm 1 f fd ["word"] m__law_spans := fd_ok D.F (N := ["word", "found", "k"]) sc__law_spans fun cdv A outer s H E hr => by
  have S := sc__law_spans
  have hu := hu_of hr
  have hv := hr.units
  have hc : (cxOf CX0 P w K mg base ["word", "found", "k"] "_law_spans" (defScope s__law_spans) f cdv A outer s H E).nox.calm = true := rfl
  exact (fss_cons (fs_asg (i := 1) S.nd rfl (by first | exact .inl rfl | exact .inr rfl) fn_dic0)
    (fss_cons (fs_for PassesOwn.never hc (fi_rng1 rfl z_range (fa_cons (fe_cb call_len rc_len rfl z_len (by decide +kernel) (fa_cons (fe_var (pv 0)) fa_nil)) fa_nil)) (fg_name (pg_name (i := 2) S.nd rfl (by first | exact .inl rfl | exact .inr rfl))) (fss_one (fs_put (i := 1) hu (pv 1) (fe_ix hu (fe_var (pv 0)) (fe_var (pv 2))) (fe_op op_addA ro_add (fe_get2 hu (fe_var (pv 1)) (fe_ix hu (fe_var (pv 0)) (fe_var (pv 2))) (fe_tup fa_nil) ⟨rfl, rfl, rfl, rfl⟩) (fe_tup (fa_cons (fe_keep (pv 2)) fa_nil))))))
    (fss_one (fs_ret (fn_move (pv 1))))))
abbrev s__law_open : Stmt := top 41
theorem sc__law_open : FnScope ["word", "gap", "spans", "letter"] ["word", "gap"] (defScope s__law_open) := ⟨rfl, rfl, rfl, by decide +kernel, rfl, by decide +kernel, by decide +kernel⟩
def e__law_open_1 : Em := (eKeep 3)
def b__law_open : Sm := (sSeq (sAsg 2 (nCall 1 m__law_spans (aCons (eKeep 0) aNil)))
    (sRet (nLc [3] (iSeq (eFrz (nCall 1 m__law_own (aCons (eKeep 0) aNil)))) (hName 3) (bOf (eChain cLe cLt (eIx (eIx (eVar 2) (eVar 3)) (eC (.int 0))) (eVar 1) (eIx (eIx (eVar 2) (eVar 3)) (eC (.int 1))))) e__law_open_1)))
def m__law_open : Rho → Option (T × Rho) := runD 2 b__law_open
theorem w__law_open (D : Dn K mg "_law_open" s__law_open ["word", "gap"] f fd) (d__law_spans : Dg P w K mg base cm 1 "_law_spans" ["word"] m__law_spans) (d__law_own : Dg P w K mg base cm 1 "_law_own" ["word"] m__law_own) : FnG P w K mg base cm 2 f fd ["word", "gap"] m__law_open := fd_ok D.F (N := ["word", "gap", "spans", "letter"]) sc__law_open fun cdv A outer s H E hr => by
  have S := sc__law_open
  have hu := hu_of hr
  have hv := hr.units
  have hc : (cxOf CX0 P w K mg base ["word", "gap", "spans", "letter"] "_law_open" (defScope s__law_open) f cdv A outer s H E).nox.calm = true := rfl
  exact (fss_cons (fs_asg (i := 2) S.nd rfl (by first | exact .inl rfl | exact .inr rfl) (fn_call d__law_spans hr (by decide) (by rfl) (fa_cons (fe_keep (pv 0)) fa_nil)))
    (fss_one (fs_ret (fn_lc (own := [("letter", 3)]) hc S.nd (fi_seq (fe_frz (fn_call d__law_own hr (by decide) (by rfl) (fa_cons (fe_keep (pv 0)) fa_nil)))) (blkOk_by (by rfl)) (fun _ _ _ _ _ => (fg_name (pg_name (i := 3) S.nd rfl (by first | exact .inl rfl | exact .inr rfl)))) (fun _ _ _ _ _ => (fts_one (fb_chain op_leA op_ltA ro_le ro_lt (fe_ix hu (fe_ix hu (fe_var (pv 2)) (fe_var (pv 3))) fe_int) (fe_var (pv 1)) (fe_ix hu (fe_ix hu (fe_var (pv 2)) (fe_var (pv 3))) fe_int)))) (fun _ _ _ _ _ => (fe_keep (pv 3))) (by decide)))))
abbrev s__law_gap : Stmt := top 42
theorem sc__law_gap : FnScope ["word", "rows", "gap"] ["word"] (defScope s__law_gap) := ⟨rfl, rfl, rfl, by decide +kernel, rfl, by decide +kernel, by decide +kernel⟩
def e__law_gap_1 : Em := (eCb cLen (aCons (eFrz (nCall 2 m__law_open (aCons (eKeep 0) (aCons (eKeep 2) aNil)))) aNil))
def b__law_gap : Sm := (sSeq (sAsg 1 (nLc [2] (iRng1 (aCons (eOp cSub (eCb cLen (aCons (eVar 0) aNil)) (eC (.int 1))) aNil)) (hName 2) bYes e__law_gap_1))
    (sRet (nIf (bOf (eOp cGt (eCb cLen (aCons (eVar 1) aNil)) (eC (.int 0)))) (nVal (eMt 1 mIdx (aCons (eCb (cBest maxR) (aCons (eVar 1) aNil)) aNil))) (nVal (eC .non)))))
def m__law_gap : Rho → Option (T × Rho) := runD 2 b__law_gap
theorem w__law_gap (D : Dn K mg "_law_gap" s__law_gap ["word"] f fd) (d__law_open : Dg P w K mg base cm 2 "_law_open" ["word", "gap"] m__law_open) (z_len : mg "len" = none) (z_max : mg "max" = none) (z_range : mg "range" = none) : FnG P w K mg base cm 3 f fd ["word"] m__law_gap := fd_ok D.F (N := ["word", "rows", "gap"]) sc__law_gap fun cdv A outer s H E hr => by
  have S := sc__law_gap
  have hu := hu_of hr
  have hv := hr.units
  have hc : (cxOf CX0 P w K mg base ["word", "rows", "gap"] "_law_gap" (defScope s__law_gap) f cdv A outer s H E).nox.calm = true := rfl
  exact (fss_cons (fs_setLc (i := 1) (own := [("gap", 2)]) hc S.nd rfl rfl rfl (fi_rng1 rfl z_range (fa_cons (fe_op op_sub ro_sub (fe_cb call_len rc_len rfl z_len (by decide +kernel) (fa_cons (fe_var (pv 0)) fa_nil)) fe_int) fa_nil)) (blkOk_by (by rfl)) (fun _ _ _ _ _ => (fg_name (pg_name (i := 2) S.nd rfl (by first | exact .inl rfl | exact .inr rfl)))) (fun _ _ _ _ _ => fts_nil) (fun _ _ _ _ _ => (fe_cb call_len rc_len rfl z_len (by decide +kernel) (fa_cons (fe_frz (fn_call d__law_open hr (by decide) (by rfl) (fa_cons (fe_keep (pv 0)) (fa_cons (fe_keep (pv 2)) fa_nil)))) fa_nil))) (by decide))
    (fss_one (fs_ret (fn_if (fb_cmp op_gtA ro_gt (fe_cb call_len rc_len rfl z_len (by decide +kernel) (fa_cons (fe_var (pv 1)) fa_nil)) fe_int (nomark _)) (fn_val (fe_mt PySem.F.slot_list_index PySem.F.type_list_index mt_index rm_idx (pv 1) (fa_cons (fe_cb (cr_maxD hc (hu3 hr)) (rc_best maxR_mem' maxR_py) rfl z_max (by decide +kernel) (fa_cons (fe_var (pv 1)) fa_nil)) fa_nil))) (fn_val fe_non)))))
abbrev s__law_same : Stmt := top 32
theorem sc__law_same : FnScope ["told", "due", "k"] ["told", "due"] (defScope s__law_same) := ⟨rfl, rfl, rfl, by decide +kernel, rfl, by decide +kernel, by decide +kernel⟩
def e__law_same_1 (r : Rho → Option (T × Rho)) : Em := (eFrz (nCall 2 r (aCons (eIx (eVar 0) (eVar 2)) (aCons (eIx (eVar 1) (eVar 2)) aNil))))
def e__law_same_2 (r : Rho → Option (T × Rho)) : Em := (eFrz (nCall 2 r (aCons (eIx (eVar 0) (eVar 2)) (aCons (eIx (eVar 1) (eVar 2)) aNil))))
def b__law_same (r : Rho → Option (T × Rho)) : Sm := (sSeq (sIf (bOf (eIsi "tuple" (eVar 1))) (sRet (nVal (eAnd (eIsi "tuple" (eVar 0)) (eAnd (eOp cEq (eCb cLen (aCons (eVar 0) aNil)) (eCb cLen (aCons (eVar 1) aNil))) (eCb cAll (aCons (eFrz (nLc [2] (iRng1 (aCons (eCb cLen (aCons (eVar 1) aNil)) aNil)) (hName 2) bYes (e__law_same_1 r))) aNil)))))) sNil)
    (sSeq (sIf (bOf (eIsi "list" (eVar 1))) (sRet (nVal (eAnd (eIsi "list" (eVar 0)) (eAnd (eOp cEq (eCb cLen (aCons (eVar 0) aNil)) (eCb cLen (aCons (eVar 1) aNil))) (eCb cAll (aCons (eFrz (nLc [2] (iRng1 (aCons (eCb cLen (aCons (eVar 1) aNil)) aNil)) (hName 2) bYes (e__law_same_2 r))) aNil)))))) sNil)
    (sSeq (sIf (bOf (eOp isD (eVar 1) (eC .non))) (sRet (nVal (eOp isD (eVar 0) (eC .non)))) sNil)
    (sSeq (sIf (bOf (eIsi "bool" (eVar 1))) (sRet (nVal (eAnd (eIsi "bool" (eVar 0)) (eOp cEq (eVar 0) (eVar 1))))) sNil)
    (sSeq (sIf (bOf (eIsi "int" (eVar 1))) (sRet (nVal (eAnd (eIsi "int" (eVar 0)) (eAnd (eNot (eIsi "bool" (eVar 0))) (eOp cEq (eVar 0) (eVar 1)))))) sNil)
    (sSeq (sIf (bOf (eIsi "str" (eVar 1))) (sRet (nVal (eAnd (eIsi "str" (eVar 0)) (eOp cEq (eVar 0) (eVar 1))))) sNil)
    (sRet (nVal (eOp cEq (eVar 0) (eVar 1))))))))))
def m__law_same : Nat → Rho → Option (T × Rho)
  | 0 => fun _ => none
  | n + 1 => runD 1 (b__law_same (m__law_same n))
theorem w__law_same (D : Dn K mg "_law_same" s__law_same ["told", "due"] f fd) (z_all : mg "all" = none) (z_bool : mg "bool" = none) (z_int : mg "int" = none) (z_isinstance : mg "isinstance" = none) (z_len : mg "len" = none) (z_list : mg "list" = none) (z_range : mg "range" = none) (z_str : mg "str" = none) (z_tuple : mg "tuple" = none) : ∀ n : Nat, FnG P w K mg base cm (0 + n) f fd ["told", "due"] (m__law_same n)
  | 0 => fd_none
  | n + 1 => by
    have d__law_same : Dg P w K mg base cm (0 + n) "_law_same" ["told", "due"] (m__law_same n) := D.mk' <| w__law_same D  z_all z_bool z_int z_isinstance z_len z_list z_range z_str z_tuple n
    exact fd_ok D.F (N := ["told", "due", "k"]) sc__law_same fun cdv A outer s H E hr => by
      have S := sc__law_same
      have hu := hu_of hr
      have hv := hr.units
      have hc : (cxOf CX0 P w K mg base ["told", "due", "k"] "_law_same" (defScope s__law_same) f cdv A outer s H E).nox.calm = true := rfl
      exact (fss_cons (fs_if (fb_val (fe_isi (T := "tuple") rfl rfl z_isinstance (by decide +kernel) (fe_var (pv 1)) (pe_bltn rfl z_tuple (by decide +kernel) rfl))) (fss_one (fs_ret (fn_val (fe_and (fe_isi (T := "tuple") rfl rfl z_isinstance (by decide +kernel) (fe_var (pv 0)) (pe_bltn rfl z_tuple (by decide +kernel) rfl)) (fe_and (fe_cmp (op_eqD hv) ro_eq (fe_cb call_len rc_len rfl z_len (by decide +kernel) (fa_cons (fe_var (pv 0)) fa_nil)) (fe_cb call_len rc_len rfl z_len (by decide +kernel) (fa_cons (fe_var (pv 1)) fa_nil)) (nomark _)) (fe_one (fe_cb (cr_all hc) rc_all rfl z_all (by decide +kernel) (fa_cons (fe_frz (fn_lc (own := [("k", 2)]) hc S.nd (fi_rng1 rfl z_range (fa_cons (fe_cb call_len rc_len rfl z_len (by decide +kernel) (fa_cons (fe_var (pv 1)) fa_nil)) fa_nil)) (blkOk_by (by rfl)) (fun _ _ _ _ _ => (fg_name (pg_name (i := 2) S.nd rfl (by first | exact .inl rfl | exact .inr rfl)))) (fun _ _ _ _ _ => fts_nil) (fun _ _ _ _ _ => (fe_frz (fn_call d__law_same hr (by first | exact Nat.le_refl _ | omega) (by rfl) (fa_cons (fe_ix hu (fe_var (pv 0)) (fe_var (pv 2))) (fa_cons (fe_ix hu (fe_var (pv 1)) (fe_var (pv 2))) fa_nil))))) (by decide))) fa_nil)))))))) fss_nil)
    (fss_cons (fs_if (fb_val (fe_isi (T := "list") rfl rfl z_isinstance (by decide +kernel) (fe_var (pv 1)) (pe_bltn rfl z_list (by decide +kernel) rfl))) (fss_one (fs_ret (fn_val (fe_and (fe_isi (T := "list") rfl rfl z_isinstance (by decide +kernel) (fe_var (pv 0)) (pe_bltn rfl z_list (by decide +kernel) rfl)) (fe_and (fe_cmp (op_eqD hv) ro_eq (fe_cb call_len rc_len rfl z_len (by decide +kernel) (fa_cons (fe_var (pv 0)) fa_nil)) (fe_cb call_len rc_len rfl z_len (by decide +kernel) (fa_cons (fe_var (pv 1)) fa_nil)) (nomark _)) (fe_one (fe_cb (cr_all hc) rc_all rfl z_all (by decide +kernel) (fa_cons (fe_frz (fn_lc (own := [("k", 2)]) hc S.nd (fi_rng1 rfl z_range (fa_cons (fe_cb call_len rc_len rfl z_len (by decide +kernel) (fa_cons (fe_var (pv 1)) fa_nil)) fa_nil)) (blkOk_by (by rfl)) (fun _ _ _ _ _ => (fg_name (pg_name (i := 2) S.nd rfl (by first | exact .inl rfl | exact .inr rfl)))) (fun _ _ _ _ _ => fts_nil) (fun _ _ _ _ _ => (fe_frz (fn_call d__law_same hr (by first | exact Nat.le_refl _ | omega) (by rfl) (fa_cons (fe_ix hu (fe_var (pv 0)) (fe_var (pv 2))) (fa_cons (fe_ix hu (fe_var (pv 1)) (fe_var (pv 2))) fa_nil))))) (by decide))) fa_nil)))))))) fss_nil)
    (fss_cons (fs_if (fb_cmp op_isA ro_is (fe_var (pv 1)) fe_non (nomark _)) (fss_one (fs_ret (fn_val (fe_cmp op_isA ro_is (fe_var (pv 0)) fe_non (nomark _))))) fss_nil)
    (fss_cons (fs_if (fb_val (fe_isi (T := "bool") rfl rfl z_isinstance (by decide +kernel) (fe_var (pv 1)) (pe_bltn rfl z_bool (by decide +kernel) rfl))) (fss_one (fs_ret (fn_val (fe_and (fe_isi (T := "bool") rfl rfl z_isinstance (by decide +kernel) (fe_var (pv 0)) (pe_bltn rfl z_bool (by decide +kernel) rfl)) (fe_one (fe_cmp (op_eqD hv) ro_eq (fe_var (pv 0)) (fe_var (pv 1)) (nomark _))))))) fss_nil)
    (fss_cons (fs_if (fb_val (fe_isi (T := "int") rfl rfl z_isinstance (by decide +kernel) (fe_var (pv 1)) (pe_bltn rfl z_int (by decide +kernel) rfl))) (fss_one (fs_ret (fn_val (fe_and (fe_isi (T := "int") rfl rfl z_isinstance (by decide +kernel) (fe_var (pv 0)) (pe_bltn rfl z_int (by decide +kernel) rfl)) (fe_and (fe_not (fe_isi (T := "bool") rfl rfl z_isinstance (by decide +kernel) (fe_var (pv 0)) (pe_bltn rfl z_bool (by decide +kernel) rfl))) (fe_one (fe_cmp (op_eqD hv) ro_eq (fe_var (pv 0)) (fe_var (pv 1)) (nomark _)))))))) fss_nil)
    (fss_cons (fs_if (fb_val (fe_isi (T := "str") rfl rfl z_isinstance (by decide +kernel) (fe_var (pv 1)) (pe_bltn rfl z_str (by decide +kernel) rfl))) (fss_one (fs_ret (fn_val (fe_and (fe_isi (T := "str") rfl rfl z_isinstance (by decide +kernel) (fe_var (pv 0)) (pe_bltn rfl z_str (by decide +kernel) rfl)) (fe_one (fe_cmp (op_eqD hv) ro_eq (fe_var (pv 0)) (fe_var (pv 1)) (nomark _))))))) fss_nil)
    (fss_one (fs_ret (fn_val (fe_cmp (op_eqD hv) ro_eq (fe_var (pv 0)) (fe_var (pv 1)) (nomark _)))))))))))
abbrev s_open_at : Stmt := top 11
theorem sc_open_at : FnScope ["word", "gap", "ends", "letter"] ["word", "gap"] (defScope s_open_at) := ⟨rfl, rfl, rfl, by decide +kernel, rfl, by decide +kernel, by decide +kernel⟩
def e_open_at_1 : Em := (eKeep 3)
def b_open_at : Sm := (sSeq (sAsg 2 (nCall 1 m_ends_by (aCons (eKeep 0) aNil)))
    (sRet (nVal (eJoin (eC (.str [])) (eFrz (nLc [3] (iKey 2) (hName 3) (bOf (eFrz (nCall 3 m_is_open (aCons (eKeep 2) (aCons (eKeep 3) (aCons (eKeep 1) aNil)))))) e_open_at_1))))))
def m_open_at : Rho → Option (T × Rho) := runD 2 b_open_at
theorem w_open_at (D : Dn K mg "open_at" s_open_at ["word", "gap"] f fd) (d_ends_by : Dg P w K mg base cm 2 "ends_by" ["word"] m_ends_by) (d_is_open : Dg P w K mg base cm 1 "is_open" ["ends", "letter", "gap"] m_is_open) : FnG P w K mg base cm 3 f fd ["word", "gap"] m_open_at := fd_ok D.F (N := ["word", "gap", "ends", "letter"]) sc_open_at fun cdv A outer s H E hr => by
  have S := sc_open_at
  have hu := hu_of hr
  have hv := hr.units
  have hc : (cxOf CX0 P w K mg base ["word", "gap", "ends", "letter"] "open_at" (defScope s_open_at) f cdv A outer s H E).nox.calm = true := rfl
  exact (fss_cons (fs_asg (i := 2) S.nd rfl (by first | exact .inl rfl | exact .inr rfl) (fn_call d_ends_by hr (by decide) (by rfl) (fa_cons (fe_keep (pv 0)) fa_nil)))
    (fss_one (fs_ret (fn_val (fe_join (fe_str (s := []) (by decide +kernel)) (fe_frz (fn_lcK (own := [("letter", 3)]) hc S.nd (pv 2) (blkOk_by (by rfl)) (fun _ _ _ _ _ => (fg_name (pg_name (i := 3) S.nd rfl (by first | exact .inl rfl | exact .inr rfl)))) (fun _ _ _ _ _ => (fts_one (fb_val (fe_frz (fn_call d_is_open hr (by decide) (by rfl) (fa_cons (fe_keep (pv 2)) (fa_cons (fe_keep (pv 3)) (fa_cons (fe_keep (pv 1)) fa_nil)))))))) (fun _ _ _ _ _ => (fe_keep (pv 3))) (by decide))))))))
abbrev s_fullest_gap_by : Stmt := top 14
theorem sc_fullest_gap_by : FnScope ["word", "gap"] ["word"] (defScope s_fullest_gap_by) := ⟨rfl, rfl, rfl, by decide +kernel, rfl, by decide +kernel, by decide +kernel⟩
def e_fullest_gap_by_1 : Em := (eTup (aCons (eOp cSub (eC (.int 0)) (eCb cLen (aCons (eFrz (nCall 2 m_open_at (aCons (eKeep 0) (aCons (eKeep 1) aNil)))) aNil))) (aCons (eKeep 1) aNil)))
def b_fullest_gap_by : Sm := (sSeq (sIf (bOf (eOp cEq (eVar 0) (eC (.str [])))) (sRet (nVal (eC .non))) sNil)
    (sRet (nVal (eIx (eCb (cBest minR) (aCons (eFrz (nLc [1] (iRng1 (aCons (eOp cSub (eCb cLen (aCons (eVar 0) aNil)) (eC (.int 1))) aNil)) (hName 1) bYes e_fullest_gap_by_1)) aNil)) (eC (.int 1))))))
def m_fullest_gap_by : Rho → Option (T × Rho) := runD 1 b_fullest_gap_by
theorem w_fullest_gap_by (D : Dn K mg "fullest_gap_by" s_fullest_gap_by ["word"] f fd) (d_open_at : Dg P w K mg base cm 3 "open_at" ["word", "gap"] m_open_at) (z_len : mg "len" = none) (z_min : mg "min" = none) (z_range : mg "range" = none) : FnG P w K mg base cm 4 f fd ["word"] m_fullest_gap_by := fd_ok D.F (N := ["word", "gap"]) sc_fullest_gap_by fun cdv A outer s H E hr => by
  have S := sc_fullest_gap_by
  have hu := hu_of hr
  have hv := hr.units
  have hc : (cxOf CX0 P w K mg base ["word", "gap"] "fullest_gap_by" (defScope s_fullest_gap_by) f cdv A outer s H E).nox.calm = true := rfl
  exact (fss_cons (fs_if (fb_cmp (op_eqD hv) ro_eq (fe_var (pv 0)) (fe_str (s := []) (by decide +kernel)) (nomark _)) (fss_one (fs_ret (fn_val fe_non))) fss_nil)
    (fss_one (fs_ret (fn_val (fe_ix hu (fe_cb (cr_minD hc (hu3 hr)) (rc_best minR_mem' minR_py) rfl z_min (by decide +kernel) (fa_cons (fe_frz (fn_lc (own := [("gap", 1)]) hc S.nd (fi_rng1 rfl z_range (fa_cons (fe_op op_sub ro_sub (fe_cb call_len rc_len rfl z_len (by decide +kernel) (fa_cons (fe_var (pv 0)) fa_nil)) fe_int) fa_nil)) (blkOk_by (by rfl)) (fun _ _ _ _ _ => (fg_name (pg_name (i := 1) S.nd rfl (by first | exact .inl rfl | exact .inr rfl)))) (fun _ _ _ _ _ => fts_nil) (fun _ _ _ _ _ => (fe_tup (fa_cons (fe_op op_sub ro_sub fe_int (fe_cb call_len rc_len rfl z_len (by decide +kernel) (fa_cons (fe_frz (fn_call d_open_at hr (by decide) (by rfl) (fa_cons (fe_keep (pv 0)) (fa_cons (fe_keep (pv 1)) fa_nil)))) fa_nil))) (fa_cons (fe_keep (pv 1)) fa_nil)))) (by decide))) fa_nil)) fe_int)))))
abbrev s_fullest_gap : Stmt := top 25
theorem sc_fullest_gap : FnScope ["word"] ["word"] (defScope s_fullest_gap) := ⟨rfl, rfl, rfl, by decide +kernel, rfl, by decide +kernel, by decide +kernel⟩
def b_fullest_gap : Sm := (sSeq (sE (eFrz (nCall 1 m_check_word (aCons (eKeep 0) aNil))))
    (sRet (nCall 1 m_fullest_gap_by (aCons (eKeep 0) aNil))))
def m_fullest_gap : Rho → Option (T × Rho) := runD 0 b_fullest_gap
theorem w_fullest_gap (D : Dn K mg "fullest_gap" s_fullest_gap ["word"] f fd) (d_check_word : Dg P w K mg base cm 3 "check_word" ["word"] m_check_word) (d_fullest_gap_by : Dg P w K mg base cm 4 "fullest_gap_by" ["word"] m_fullest_gap_by) : FnG P w K mg base cm 5 f fd ["word"] m_fullest_gap := fd_ok D.F (N := ["word"]) sc_fullest_gap fun cdv A outer s H E hr => by
  have S := sc_fullest_gap
  have hu := hu_of hr
  have hv := hr.units
  have hc : (cxOf CX0 P w K mg base ["word"] "fullest_gap" (defScope s_fullest_gap) f cdv A outer s H E).nox.calm = true := rfl
  exact (fss_cons (fs_expr (fe_frz (fn_call d_check_word hr (by decide) (by rfl) (fa_cons (fe_keep (pv 0)) fa_nil))))
    (fss_one (fs_ret (fn_call d_fullest_gap_by hr (by decide) (by rfl) (fa_cons (fe_keep (pv 0)) fa_nil)))))
abbrev s__law_asked : Stmt := top 43
theorem sc__law_asked : FnScope ["word", "due", "gap", "own", "some", "letter"] ["word"] (defScope s__law_asked) := ⟨rfl, rfl, rfl, by decide +kernel, rfl, by decide +kernel, by decide +kernel⟩
def e__law_asked_1 : Em := (eIx (eVar 1) (eMt 3 mIdx (aCons (eKeep 5) aNil)))
def b__law_asked : Sm := (sSeq (sPars [1, 2] (mCons (nCall 1 m__law_seats (aCons (eKeep 0) aNil)) (mCons (nCall 1 m__law_gap (aCons (eKeep 0) aNil)) mNil)))
    (sSeq (sIf (bOr (bNot (bOf (eFrz (nCall 2 (m__law_same 4) (aCons (eFrz (nCall 1 m_seats (aCons (eKeep 0) aNil))) (aCons (eKeep 1) aNil)))))) (bNot (bOf (eFrz (nCall 2 (m__law_same 4) (aCons (eFrz (nCallK 1 [0] m_seats (aCons (eKeep 0) aNil))) (aCons (eKeep 1) aNil))))))) (sRet (nVal (eC (.bl false)))) sNil)
    (sSeq (sIf (bOr (bNot (bOf (eFrz (nCall 2 (m__law_same 4) (aCons (eFrz (nCall 1 m_fullest_gap (aCons (eKeep 0) aNil))) (aCons (eKeep 2) aNil)))))) (bNot (bOf (eFrz (nCall 2 (m__law_same 4) (aCons (eFrz (nCallK 1 [0] m_fullest_gap (aCons (eKeep 0) aNil))) (aCons (eKeep 2) aNil))))))) (sRet (nVal (eC (.bl false)))) sNil)
    (sSeq (sIf (bOf (eOp isD (eVar 2) (eC .non))) (sRet (nVal (eC (.bl true)))) sNil)
    (sSeq (sPars [3, 4] (mCons (nCall 1 m__law_own (aCons (eKeep 0) aNil)) (mCons (nCall 2 m__law_open (aCons (eKeep 0) (aCons (eKeep 2) aNil))) mNil)))
    (sRet (nVal (eAnd (eChain cEq cEq (eLenSetT (eVar 1)) (eCb cLen (aCons (eVar 4) aNil)) (eOp cAdd (eCb (cBest maxR) (aCons (eVar 1) aNil)) (eC (.int 1)))) (eOp cEq (eLenSetL (eFrz (nLc [5] (iSeq (eKeep 4)) (hName 5) bYes e__law_asked_1))) (eCb cLen (aCons (eVar 4) aNil)))))))))))
def m__law_asked : Rho → Option (T × Rho) := runD 5 b__law_asked
theorem w__law_asked (D : Dn K mg "_law_asked" s__law_asked ["word"] f fd) (d__law_gap : Dg P w K mg base cm 3 "_law_gap" ["word"] m__law_gap) (d__law_seats : Dg P w K mg base cm 2 "_law_seats" ["word"] m__law_seats) (d__law_same : Dg P w K mg base cm 4 "_law_same" ["told", "due"] (m__law_same 4)) (d_seats : Dg P w K mg base cm 6 "seats" ["word"] m_seats) (d_fullest_gap : Dg P w K mg base cm 5 "fullest_gap" ["word"] m_fullest_gap) (d__law_open : Dg P w K mg base cm 2 "_law_open" ["word", "gap"] m__law_open) (d__law_own : Dg P w K mg base cm 1 "_law_own" ["word"] m__law_own) (dk_seats_0 : Dk P w K mg base cm 6 "seats" ["word"] ["word"] [0] m_seats) (dk_fullest_gap_0 : Dk P w K mg base cm 5 "fullest_gap" ["word"] ["word"] [0] m_fullest_gap) (z_len : mg "len" = none) (z_max : mg "max" = none) (z_set : mg "set" = none) : FnG P w K mg base cm 7 f fd ["word"] m__law_asked := fd_ok D.F (N := ["word", "due", "gap", "own", "some", "letter"]) sc__law_asked fun cdv A outer s H E hr => by
  have S := sc__law_asked
  have hu := hu_of hr
  have hv := hr.units
  have hc : (cxOf CX0 P w K mg base ["word", "due", "gap", "own", "some", "letter"] "_law_asked" (defScope s__law_asked) f cdv A outer s H E).nox.calm = true := rfl
  exact (fss_cons (fs_parsT (is := [1, 2]) hc (fm_cons (fn_call d__law_seats hr (by decide) (by rfl) (fa_cons (fe_keep (pv 0)) fa_nil)) (fm_cons (fn_call d__law_gap hr (by decide) (by rfl) (fa_cons (fe_keep (pv 0)) fa_nil)) fm_nil)) (pgn_cons (pg_name (i := 1) S.nd rfl (by first | exact .inl rfl | exact .inr rfl)) (pgn_cons (pg_name (i := 2) S.nd rfl (by first | exact .inl rfl | exact .inr rfl)) pgn_nil)))
    (fss_cons (fs_if (fb_w (fw_or (fb_not (fb_val (fe_frz (fn_call d__law_same hr (by decide) (by rfl) (fa_cons (fe_frz (fn_call d_seats hr (by decide) (by rfl) (fa_cons (fe_keep (pv 0)) fa_nil))) (fa_cons (fe_keep (pv 1)) fa_nil)))))) (fw_one (fb_not (fb_val (fe_frz (fn_call d__law_same hr (by decide) (by rfl) (fa_cons (fe_frz (fn_callK dk_seats_0 hr (by decide) (by rfl) (fk_cons (fe_keep (pv 0)) fk_nil))) (fa_cons (fe_keep (pv 1)) fa_nil)))))) (by first | exact .inl rfl | exact .inr rfl)))) (fss_one (fs_ret (fn_val fe_bl))) fss_nil)
    (fss_cons (fs_if (fb_w (fw_or (fb_not (fb_val (fe_frz (fn_call d__law_same hr (by decide) (by rfl) (fa_cons (fe_frz (fn_call d_fullest_gap hr (by decide) (by rfl) (fa_cons (fe_keep (pv 0)) fa_nil))) (fa_cons (fe_keep (pv 2)) fa_nil)))))) (fw_one (fb_not (fb_val (fe_frz (fn_call d__law_same hr (by decide) (by rfl) (fa_cons (fe_frz (fn_callK dk_fullest_gap_0 hr (by decide) (by rfl) (fk_cons (fe_keep (pv 0)) fk_nil))) (fa_cons (fe_keep (pv 2)) fa_nil)))))) (by first | exact .inl rfl | exact .inr rfl)))) (fss_one (fs_ret (fn_val fe_bl))) fss_nil)
    (fss_cons (fs_if (fb_cmp op_isA ro_is (fe_var (pv 2)) fe_non (nomark _)) (fss_one (fs_ret (fn_val fe_bl))) fss_nil)
    (fss_cons (fs_parsT (is := [3, 4]) hc (fm_cons (fn_call d__law_own hr (by decide) (by rfl) (fa_cons (fe_keep (pv 0)) fa_nil)) (fm_cons (fn_call d__law_open hr (by decide) (by rfl) (fa_cons (fe_keep (pv 0)) (fa_cons (fe_keep (pv 2)) fa_nil))) fm_nil)) (pgn_cons (pg_name (i := 3) S.nd rfl (by first | exact .inl rfl | exact .inr rfl)) (pgn_cons (pg_name (i := 4) S.nd rfl (by first | exact .inl rfl | exact .inr rfl)) pgn_nil)))
    (fss_one (fs_ret (fn_val (fe_and (fe_chain (op_eqD hv) (op_eqD hv) ro_eq ro_eq (fe_lenSetT hc rfl z_len rfl z_set (fe_var (pv 1))) (fe_cb call_len rc_len rfl z_len (by decide +kernel) (fa_cons (fe_var (pv 4)) fa_nil)) (fe_op op_addA ro_add (fe_cb (cr_maxD hc (hu3 hr)) (rc_best maxR_mem' maxR_py) rfl z_max (by decide +kernel) (fa_cons (fe_var (pv 1)) fa_nil)) fe_int)) (fe_one (fe_cmp (op_eqD hv) ro_eq (fe_lenSetL hc rfl z_len rfl z_set (fe_frz (fn_lc (own := [("letter", 5)]) hc S.nd (fi_seq (fe_keep (pv 4))) (blkOk_by (by rfl)) (fun _ _ _ _ _ => (fg_name (pg_name (i := 5) S.nd rfl (by first | exact .inl rfl | exact .inr rfl)))) (fun _ _ _ _ _ => fts_nil) (fun _ _ _ _ _ => (fe_ix hu (fe_var (pv 1)) (fe_mt PySem.F.slot_list_index PySem.F.type_list_index mt_index rm_idx (pv 3) (fa_cons (fe_keep (pv 5)) fa_nil)))) (by decide)))) (fe_cb call_len rc_len rfl z_len (by decide +kernel) (fa_cons (fe_var (pv 4)) fa_nil)) (nomark _))))))))))))
abbrev s__law_turn : Stmt := top 44
theorem sc__law_turn : FnScope ["well", "many", "word", "left", "wide", "names", "letter", "again", "both", "told", "own", "alone", "rest", "each", "k", "sign"] ["well"] (defScope s__law_turn) := ⟨rfl, rfl, rfl, by decide +kernel, rfl, by decide +kernel, by decide +kernel⟩
def e__law_turn_1 : Em := (eKeep 13)
def l__law_turn_2 : Sm := (sPut 5 (eIx (eVar 3) (eCb cLenD (aCons (eVar 5) aNil))) (eVar 6))
def e__law_turn_3 : Em := (eIx (eVar 5) (eVar 15))
def e__law_turn_4 : Em := (eIx (eVar 9) (eVar 14))
def e__law_turn_5 : Em := (eIx (eVar 9) (eVar 14))
def b__law_turn : Sm := (sSeq (sAsg 1 (nCallO 2 0 m__law_pick (aCons (eVar 0) (aCons (eFrz (nLst (aCons (eC (.int 0)) (aCons (eC (.int 1)) (aCons (eC (.int 2)) (aCons (eC (.int 3)) (aCons (eC (.int 5)) (aCons (eC (.int 8)) (aCons (eC (.int 12)) (aCons (eFrz (nCallO 2 0 m__law_take (aCons (eVar 0) (aCons (eC (.int 13)) aNil)))) aNil)))))))))) aNil))))
    (sSeq (sAsg 2 (nCallO 2 0 m__law_word (aCons (eVar 0) (aCons (eKeep 1) aNil))))
    (sSeq (sIf (bOr (bNot (bOf (eFrz (nCall 1 m__law_asked (aCons (eKeep 2) aNil))))) (bNot (bOf (eFrz (nCall 1 m__law_asked (aCons (eRevT (eVar 2)) aNil)))))) (sRet (nVal (eC (.bl false)))) sNil)
    (sSeq (sAsg 3 (nLc [13] (iSeq (eC (.str [97, 98, 99, 100, 101, 102, 103, 104, 105, 106, 107, 108]))) (hName 13) (bOf (eOp cNi (eVar 13) (eVar 2))) e__law_turn_1))
    (sSeq (sIf (bOf (eOp cEq (eCb cLen (aCons (eVar 3) aNil)) (eC (.int 0)))) (sRet (nVal (eC (.bl true)))) sNil)
    (sSeq (sAsg 4 (nVal (eOp cAdd (eOp cAdd (eIx (eVar 3) (eC (.int 0))) (eVar 2)) (eIx (eVar 3) (eC (.int 0))))))
    (sSeq (sIf (bOr (bNot (bOf (eFrz (nCall 1 m__law_asked (aCons (eKeep 4) aNil))))) (bOf (eOp cNe (eCb (cBest maxR) (aCons (eFrz (nCall 1 m_seats (aCons (eKeep 4) aNil))) aNil)) (eOp cAdd (eCb (cBest maxR) (aCons (eOp cAdd (eFrz (nCall 1 m_seats (aCons (eKeep 2) aNil))) (eTup (aCons (eUn cNeg (eC (.int 1))) aNil))) aNil)) (eC (.int 1)))))) (sRet (nVal (eC (.bl false)))) sNil)
    (sSeq (sAsg 5 nDic0)
    (sSeq (sFor (iSeq (eSl (eFrz (nCall 1 m__law_own (aCons (eKeep 2) aNil))) oNone (oSome (eCb cLen (aCons (eVar 3) aNil))))) (hName 6) l__law_turn_2)
    (sSeq (sAsg 7 (nVal (eJoin (eC (.str [])) (eFrz (nLc [15] (iSeq (eKeep 2)) (hName 15) (bOf (eOp cInD (eVar 15) (eVar 5))) e__law_turn_3)))))
    (sSeq (sPars [8, 9] (mCons (nVal (eOp cAdd (eVar 2) (eVar 7))) (mCons (nCall 1 m_seats (aCons (eOp cAdd (eVar 2) (eVar 7)) aNil)) mNil)))
    (sSeq (sAsg 10 (nCall 1 m__law_own (aCons (eKeep 8) aNil)))
    (sSeq (sAsg 11 (nLc [14] (iRng1 (aCons (eCb cLen (aCons (eVar 10) aNil)) aNil)) (hName 14) (bOf (eOp cInA (eIx (eVar 10) (eVar 14)) (eVar 2))) e__law_turn_4))
    (sSeq (sAsg 12 (nLc [14] (iRng1 (aCons (eCb cLen (aCons (eVar 10) aNil)) aNil)) (hName 14) (bOf (eOp cInA (eIx (eVar 10) (eVar 14)) (eVar 7))) e__law_turn_5))
    (sRet (nVal (eAnd (eFrz (nCall 1 m__law_asked (aCons (eKeep 8) aNil))) (eAnd (eFrz (nCall 2 (m__law_same 4) (aCons (eCb cTuple (aCons (eVar 11) aNil)) (aCons (eFrz (nCall 1 m_seats (aCons (eKeep 2) aNil))) aNil)))) (eFrz (nCall 2 (m__law_same 4) (aCons (eCb cTuple (aCons (eVar 12) aNil)) (aCons (eFrz (nCall 1 m_seats (aCons (eKeep 7) aNil))) aNil))))))))))))))))))))))
def m__law_turn : Rho → Option (T × Rho) := runD 15 b__law_turn
theorem w__law_turn (D : Dn K mg "_law_turn" s__law_turn ["well"] f fd) (d__law_pick : Dg P w K mg base cm 2 "_law_pick" ["well", "some"] m__law_pick) (d__law_take : Dg P w K mg base cm 1 "_law_take" ["well", "many"] m__law_take) (d__law_word : Dg P w K mg base cm 3 "_law_word" ["well", "many"] m__law_word) (d__law_asked : Dg P w K mg base cm 7 "_law_asked" ["word"] m__law_asked) (d_seats : Dg P w K mg base cm 6 "seats" ["word"] m_seats) (d__law_own : Dg P w K mg base cm 1 "_law_own" ["word"] m__law_own) (d__law_same : Dg P w K mg base cm 4 "_law_same" ["told", "due"] (m__law_same 4)) (z_len : mg "len" = none) (z_max : mg "max" = none) (z_range : mg "range" = none) (z_tuple : mg "tuple" = none) : FnG P w K mg base cm 8 f fd ["well"] m__law_turn := fd_ok D.F (N := ["well", "many", "word", "left", "wide", "names", "letter", "again", "both", "told", "own", "alone", "rest", "each", "k", "sign"]) sc__law_turn fun cdv A outer s H E hr => by
  have S := sc__law_turn
  have hu := hu_of hr
  have hv := hr.units
  have hc : (cxOf CX0 P w K mg base ["well", "many", "word", "left", "wide", "names", "letter", "again", "both", "told", "own", "alone", "rest", "each", "k", "sign"] "_law_turn" (defScope s__law_turn) f cdv A outer s H E).nox.calm = true := rfl
  exact (fss_cons (fs_asg (i := 1) S.nd rfl (by first | exact .inl rfl | exact .inr rfl) (fn_callO (j0 := 0) d__law_pick hr (by decide) (by rfl) (fa_cons (fe_var (pv 0)) (fa_cons (fe_frz (fn_lst (fa_cons fe_int (fa_cons fe_int (fa_cons fe_int (fa_cons fe_int (fa_cons fe_int (fa_cons fe_int (fa_cons fe_int (fa_cons (fe_frz (fn_callO (j0 := 0) d__law_take hr (by decide) (by rfl) (fa_cons (fe_var (pv 0)) (fa_cons fe_int fa_nil)))) fa_nil)))))))))) fa_nil))))
    (fss_cons (fs_asg (i := 2) S.nd rfl (by first | exact .inl rfl | exact .inr rfl) (fn_callO (j0 := 0) d__law_word hr (by decide) (by rfl) (fa_cons (fe_var (pv 0)) (fa_cons (fe_keep (pv 1)) fa_nil))))
    (fss_cons (fs_if (fb_w (fw_or (fb_not (fb_val (fe_frz (fn_call d__law_asked hr (by decide) (by rfl) (fa_cons (fe_keep (pv 2)) fa_nil))))) (fw_one (fb_not (fb_val (fe_frz (fn_call d__law_asked hr (by decide) (by rfl) (fa_cons (fe_revT (fe_var (pv 2))) fa_nil))))) (by first | exact .inl rfl | exact .inr rfl)))) (fss_one (fs_ret (fn_val fe_bl))) fss_nil)
    (fss_cons (fs_setLc (i := 3) (own := [("each", 13)]) hc S.nd rfl rfl rfl (fi_seq (fe_str (s := [97, 98, 99, 100, 101, 102, 103, 104, 105, 106, 107, 108]) (by decide +kernel))) (blkOk_by (by rfl)) (fun _ _ _ _ _ => (fg_name (pg_name (i := 13) S.nd rfl (by first | exact .inl rfl | exact .inr rfl)))) (fun _ _ _ _ _ => (fts_one (fb_cmp op_ninA ro_nin (fe_var (pv 13)) (fe_var (pv 2)) (by with_unfolding_all rfl)))) (fun _ _ _ _ _ => (fe_keep (pv 13))) (by decide))
    (fss_cons (fs_if (fb_cmp (op_eqD hv) ro_eq (fe_cb call_len rc_len rfl z_len (by decide +kernel) (fa_cons (fe_var (pv 3)) fa_nil)) fe_int (nomark _)) (fss_one (fs_ret (fn_val fe_bl))) fss_nil)
    (fss_cons (fs_asg (i := 4) S.nd rfl (by first | exact .inl rfl | exact .inr rfl) (fn_val (fe_op op_addA ro_add (fe_op op_addA ro_add (fe_ix hu (fe_var (pv 3)) fe_int) (fe_var (pv 2))) (fe_ix hu (fe_var (pv 3)) fe_int))))
    (fss_cons (fs_if (fb_w (fw_or (fb_not (fb_val (fe_frz (fn_call d__law_asked hr (by decide) (by rfl) (fa_cons (fe_keep (pv 4)) fa_nil))))) (fw_one (fb_cmp (op_neD hv) ro_ne (fe_cb (cr_maxD hc (hu3 hr)) (rc_best maxR_mem' maxR_py) rfl z_max (by decide +kernel) (fa_cons (fe_frz (fn_call d_seats hr (by decide) (by rfl) (fa_cons (fe_keep (pv 4)) fa_nil))) fa_nil)) (fe_op op_addA ro_add (fe_cb (cr_maxD hc (hu3 hr)) (rc_best maxR_mem' maxR_py) rfl z_max (by decide +kernel) (fa_cons (fe_op op_addA ro_add (fe_frz (fn_call d_seats hr (by decide) (by rfl) (fa_cons (fe_keep (pv 2)) fa_nil))) (fe_tup (fa_cons (fe_neg fe_int) fa_nil))) fa_nil)) fe_int) (nomark _)) (by first | exact .inl rfl | exact .inr rfl)))) (fss_one (fs_ret (fn_val fe_bl))) fss_nil)
    (fss_cons (fs_asg (i := 5) S.nd rfl (by first | exact .inl rfl | exact .inr rfl) fn_dic0)
    (fss_cons (fs_for PassesOwn.never hc (fi_seq (fe_sl (fe_frz (fn_call d__law_own hr (by decide) (by rfl) (fa_cons (fe_keep (pv 2)) fa_nil))) fo_none (fo_some (fe_cb call_len rc_len rfl z_len (by decide +kernel) (fa_cons (fe_var (pv 3)) fa_nil))))) (fg_name (pg_name (i := 6) S.nd rfl (by first | exact .inl rfl | exact .inr rfl))) (fss_one (fs_put (i := 5) hu (pv 5) (fe_var (pv 6)) (fe_ix hu (fe_var (pv 3)) (fe_cb cr_lenDk rc_lenDk rfl z_len (by decide +kernel) (fa_cons (fe_var (pv 5)) fa_nil))))))
    (fss_cons (fs_asg (i := 7) S.nd rfl (by first | exact .inl rfl | exact .inr rfl) (fn_val (fe_join (fe_str (s := []) (by decide +kernel)) (fe_frz (fn_lc (own := [("sign", 15)]) hc S.nd (fi_seq (fe_keep (pv 2))) (blkOk_by (by rfl)) (fun _ _ _ _ _ => (fg_name (pg_name (i := 15) S.nd rfl (by first | exact .inl rfl | exact .inr rfl)))) (fun _ _ _ _ _ => (fts_one (fb_cmp (op_inDict hu) ro_inDict (fe_var (pv 15)) (fe_var (pv 5)) (by with_unfolding_all rfl)))) (fun _ _ _ _ _ => (fe_ix hu (fe_var (pv 5)) (fe_var (pv 15)))) (by decide))))))
    (fss_cons (fs_parsT (is := [8, 9]) hc (fm_cons (fn_val (fe_op op_addA ro_add (fe_var (pv 2)) (fe_var (pv 7)))) (fm_cons (fn_call d_seats hr (by decide) (by rfl) (fa_cons (fe_op op_addA ro_add (fe_var (pv 2)) (fe_var (pv 7))) fa_nil)) fm_nil)) (pgn_cons (pg_name (i := 8) S.nd rfl (by first | exact .inl rfl | exact .inr rfl)) (pgn_cons (pg_name (i := 9) S.nd rfl (by first | exact .inl rfl | exact .inr rfl)) pgn_nil)))
    (fss_cons (fs_asg (i := 10) S.nd rfl (by first | exact .inl rfl | exact .inr rfl) (fn_call d__law_own hr (by decide) (by rfl) (fa_cons (fe_keep (pv 8)) fa_nil)))
    (fss_cons (fs_setLc (i := 11) (own := [("k", 14)]) hc S.nd rfl rfl rfl (fi_rng1 rfl z_range (fa_cons (fe_cb call_len rc_len rfl z_len (by decide +kernel) (fa_cons (fe_var (pv 10)) fa_nil)) fa_nil)) (blkOk_by (by rfl)) (fun _ _ _ _ _ => (fg_name (pg_name (i := 14) S.nd rfl (by first | exact .inl rfl | exact .inr rfl)))) (fun _ _ _ _ _ => (fts_one (fb_cmp op_inA ro_in (fe_ix hu (fe_var (pv 10)) (fe_var (pv 14))) (fe_var (pv 2)) (by with_unfolding_all rfl)))) (fun _ _ _ _ _ => (fe_ix hu (fe_var (pv 9)) (fe_var (pv 14)))) (by decide))
    (fss_cons (fs_setLc (i := 12) (own := [("k", 14)]) hc S.nd rfl rfl rfl (fi_rng1 rfl z_range (fa_cons (fe_cb call_len rc_len rfl z_len (by decide +kernel) (fa_cons (fe_var (pv 10)) fa_nil)) fa_nil)) (blkOk_by (by rfl)) (fun _ _ _ _ _ => (fg_name (pg_name (i := 14) S.nd rfl (by first | exact .inl rfl | exact .inr rfl)))) (fun _ _ _ _ _ => (fts_one (fb_cmp op_inA ro_in (fe_ix hu (fe_var (pv 10)) (fe_var (pv 14))) (fe_var (pv 7)) (by with_unfolding_all rfl)))) (fun _ _ _ _ _ => (fe_ix hu (fe_var (pv 9)) (fe_var (pv 14)))) (by decide))
    (fss_one (fs_ret (fn_val (fe_and (fe_frz (fn_call d__law_asked hr (by decide) (by rfl) (fa_cons (fe_keep (pv 8)) fa_nil))) (fe_and (fe_frz (fn_call d__law_same hr (by decide) (by rfl) (fa_cons (fe_ct call_tuple_of rc_tuple rfl z_tuple (by decide +kernel) (fa_cons (fe_var (pv 11)) fa_nil)) (fa_cons (fe_frz (fn_call d_seats hr (by decide) (by rfl) (fa_cons (fe_keep (pv 2)) fa_nil))) fa_nil)))) (fe_one (fe_frz (fn_call d__law_same hr (by decide) (by rfl) (fa_cons (fe_ct call_tuple_of rc_tuple rfl z_tuple (by decide +kernel) (fa_cons (fe_var (pv 12)) fa_nil)) (fa_cons (fe_frz (fn_call d_seats hr (by decide) (by rfl) (fa_cons (fe_keep (pv 7)) fa_nil))) fa_nil))))))))))))))))))))))))
abbrev s_stabbed_letters : Stmt := top 15
theorem sc_stabbed_letters : FnScope ["word", "ends", "found", "last", "letter"] ["word"] (defScope s_stabbed_letters) := ⟨rfl, rfl, rfl, by decide +kernel, rfl, by decide +kernel, by decide +kernel⟩
def k_stabbed_letters_1 : Em := (eIx (eIx (eVar 1) (eVar 0)) (eC (.int 1)))
def l_stabbed_letters_2 : Sm := (sIf (bOf (eOp cGt (eIx (eIx (eVar 1) (eVar 4)) (eC (.int 0))) (eVar 3))) (sSeq (sE (eMt 2 mApp (aCons (eKeep 4) aNil)))
    (sAsg 3 (nVal (eOp cSub (eIx (eIx (eVar 1) (eVar 4)) (eC (.int 1))) (eC (.int 1)))))) sNil)
def b_stabbed_letters : Sm := (sSeq (sPars [1, 2, 3] (mCons (nCall 1 m_ends_by (aCons (eKeep 0) aNil)) (mCons (nLst aNil) (mCons (nVal (eUn cNeg (eC (.int 1)))) mNil))))
    (sSeq (sFor (iSeq (eFrz (nSortK 1 [1] k_stabbed_letters_1))) (hName 4) l_stabbed_letters_2)
    (sRet (nMove 2))))
def m_stabbed_letters : Rho → Option (T × Rho) := runD 4 b_stabbed_letters
theorem w_stabbed_letters (D : Dn K mg "stabbed_letters" s_stabbed_letters ["word"] f fd) (d_ends_by : Dg P w K mg base cm 2 "ends_by" ["word"] m_ends_by) (z_sorted : mg "sorted" = none) {c Pt : Addr} (TB : LamX.TabB base mg c Pt) (hcd : fd.code = .ref c) (hmT : (Pt, ("stabbed_letters.<locals>.<lambda>" : Str)) ∈ cm.T) (huT : ∀ p ∈ cm.T, p.1 = Pt → p.2 = ("stabbed_letters.<locals>.<lambda>" : Str)) : FnG P w K mg base cm 4 f fd ["word"] m_stabbed_letters := fd_okT D.F (N := ["word", "ends", "found", "last", "letter"]) sc_stabbed_letters fun A outer s H E hr => by
  have S := sc_stabbed_letters
  have hu := hu_of hr
  have hv := hr.units
  have hc : (cxOf CX0 P w K mg base ["word", "ends", "found", "last", "letter"] "stabbed_letters" (defScope s_stabbed_letters) f fd.code A outer s H E).nox.calm = true := rfl
  exact (fss_cons (fs_parsT (is := [1, 2, 3]) hc (fm_cons (fn_call d_ends_by hr (by decide) (by rfl) (fa_cons (fe_keep (pv 0)) fa_nil)) (fm_cons (fn_lst fa_nil) (fm_cons (fn_val (fe_neg fe_int)) fm_nil))) (pgn_cons (pg_name (i := 1) S.nd rfl (by first | exact .inl rfl | exact .inr rfl)) (pgn_cons (pg_name (i := 2) S.nd rfl (by first | exact .inl rfl | exact .inr rfl)) (pgn_cons (pg_name (i := 3) S.nd rfl (by first | exact .inl rfl | exact .inr rfl)) pgn_nil))))
    (fss_cons (fs_for PassesOwn.never hc (fi_seq (fe_frz (fn_sortK (i := 1) (js := [1]) (fr := ["ends"]) (a := "each") (k := 0) hc rfl z_sorted (pv 1) TB hcd hmT huT hr (NdefX.nscope_by (by decide +kernel)) (free_by (by rfl)) (by decide +kernel) rfl rfl (fun _ _ _ _ _ _ => rfl) fun A outer s H f c' hrm => by
    have hu := hu_of hrm
    exact (fe_ix hu (fe_ix hu (fe_var (pv 1)) (fe_var (pv 0))) fe_int)))) (fg_name (pg_name (i := 4) S.nd rfl (by first | exact .inl rfl | exact .inr rfl))) (fss_one (fs_if (fb_cmp op_gtA ro_gt (fe_ix hu (fe_ix hu (fe_var (pv 1)) (fe_var (pv 4))) fe_int) (fe_var (pv 3)) (nomark _)) (fss_cons (fs_expr (fe_mt PySem.F.slot_list_append PySem.F.type_list_append mt_append rm_app (pv 2) (fa_cons (fe_keep (pv 4)) fa_nil)))
    (fss_one (fs_asg (i := 3) S.nd rfl (by first | exact .inl rfl | exact .inr rfl) (fn_val (fe_op op_sub ro_sub (fe_ix hu (fe_ix hu (fe_var (pv 1)) (fe_var (pv 4))) fe_int) fe_int))))) fss_nil)))
    (fss_one (fs_ret (fn_move (pv 2))))))
abbrev s_stabs_by : Stmt := top 16
theorem sc_stabs_by : FnScope ["word", "ends", "letter"] ["word"] (defScope s_stabs_by) := ⟨rfl, rfl, rfl, by decide +kernel, rfl, by decide +kernel, by decide +kernel⟩
def e_stabs_by_1 : Em := (eOp cSub (eIx (eIx (eVar 1) (eVar 2)) (eC (.int 1))) (eC (.int 1)))
def b_stabs_by : Sm := (sSeq (sAsg 1 (nCall 1 m_ends_by (aCons (eKeep 0) aNil)))
    (sRet (nVal (eCb cTuple (aCons (eFrz (nLc [2] (iSeq (eFrz (nCall 1 m_stabbed_letters (aCons (eKeep 0) aNil)))) (hName 2) bYes e_stabs_by_1)) aNil)))))
def m_stabs_by : Rho → Option (T × Rho) := runD 2 b_stabs_by
theorem w_stabs_by (D : Dn K mg "stabs_by" s_stabs_by ["word"] f fd) (d_ends_by : Dg P w K mg base cm 2 "ends_by" ["word"] m_ends_by) (d_stabbed_letters : Dg P w K mg base cm 4 "stabbed_letters" ["word"] m_stabbed_letters) (z_tuple : mg "tuple" = none) : FnG P w K mg base cm 5 f fd ["word"] m_stabs_by := fd_ok D.F (N := ["word", "ends", "letter"]) sc_stabs_by fun cdv A outer s H E hr => by
  have S := sc_stabs_by
  have hu := hu_of hr
  have hv := hr.units
  have hc : (cxOf CX0 P w K mg base ["word", "ends", "letter"] "stabs_by" (defScope s_stabs_by) f cdv A outer s H E).nox.calm = true := rfl
  exact (fss_cons (fs_asg (i := 1) S.nd rfl (by first | exact .inl rfl | exact .inr rfl) (fn_call d_ends_by hr (by decide) (by rfl) (fa_cons (fe_keep (pv 0)) fa_nil)))
    (fss_one (fs_ret (fn_val (fe_ct call_tuple_of rc_tuple rfl z_tuple (by decide +kernel) (fa_cons (fe_frz (fn_lc (own := [("letter", 2)]) hc S.nd (fi_seq (fe_frz (fn_call d_stabbed_letters hr (by decide) (by rfl) (fa_cons (fe_keep (pv 0)) fa_nil)))) (blkOk_by (by rfl)) (fun _ _ _ _ _ => (fg_name (pg_name (i := 2) S.nd rfl (by first | exact .inl rfl | exact .inr rfl)))) (fun _ _ _ _ _ => fts_nil) (fun _ _ _ _ _ => (fe_op op_sub ro_sub (fe_ix hu (fe_ix hu (fe_var (pv 1)) (fe_var (pv 2))) fe_int) fe_int)) (by decide))) fa_nil))))))
abbrev s_stabs : Stmt := top 26
theorem sc_stabs : FnScope ["word"] ["word"] (defScope s_stabs) := ⟨rfl, rfl, rfl, by decide +kernel, rfl, by decide +kernel, by decide +kernel⟩
def b_stabs : Sm := (sSeq (sE (eFrz (nCall 1 m_check_word (aCons (eKeep 0) aNil))))
    (sRet (nCall 1 m_stabs_by (aCons (eKeep 0) aNil))))
def m_stabs : Rho → Option (T × Rho) := runD 0 b_stabs
theorem w_stabs (D : Dn K mg "stabs" s_stabs ["word"] f fd) (d_check_word : Dg P w K mg base cm 3 "check_word" ["word"] m_check_word) (d_stabs_by : Dg P w K mg base cm 5 "stabs_by" ["word"] m_stabs_by) : FnG P w K mg base cm 6 f fd ["word"] m_stabs := fd_ok D.F (N := ["word"]) sc_stabs fun cdv A outer s H E hr => by
  have S := sc_stabs
  have hu := hu_of hr
  have hv := hr.units
  have hc : (cxOf CX0 P w K mg base ["word"] "stabs" (defScope s_stabs) f cdv A outer s H E).nox.calm = true := rfl
  exact (fss_cons (fs_expr (fe_frz (fn_call d_check_word hr (by decide) (by rfl) (fa_cons (fe_keep (pv 0)) fa_nil))))
    (fss_one (fs_ret (fn_call d_stabs_by hr (by decide) (by rfl) (fa_cons (fe_keep (pv 0)) fa_nil)))))
abbrev s__law_stabbed : Stmt := top 45
theorem sc__law_stabbed : FnScope ["word", "spans", "gaps", "some", "end", "letter", "each", "gap"] ["word"] (defScope s__law_stabbed) := ⟨rfl, rfl, rfl, by decide +kernel, rfl, by decide +kernel, by decide +kernel⟩
def e__law_stabbed_1 : Em := (eTup (aCons (eIx (eIx (eVar 1) (eVar 6)) (eC (.int 1))) (aCons (eKeep 6) aNil)))
def e__law_stabbed_2 : Em := (eKeep 7)
def l__law_stabbed_3 : Sm := (sIf (bOf (eOp cEq (eFrz (nLcL [7] 2 (hName 7) (bOf (eChain cLe cLt (eIx (eIx (eVar 1) (eVar 5)) (eC (.int 0))) (eVar 7) (eVar 4))) e__law_stabbed_2)) (eFrz (nLst aNil)))) (sSeq (sE (eMt 2 mApp (aCons (eOp cSub (eVar 4) (eC (.int 1))) aNil)))
    (sE (eMt 3 mApp (aCons (eKeep 5) aNil)))) sNil)
def b__law_stabbed : Sm := (sSeq (sPars [1, 2, 3] (mCons (nCall 1 m__law_spans (aCons (eKeep 0) aNil)) (mCons (nLst aNil) (mCons (nLst aNil) mNil))))
    (sSeq (sFor (iSeq (eFrz (nCb cSortDt (aCons (eFrz (nLc [6] (iKey 1) (hName 6) bYes e__law_stabbed_1)) aNil)))) (hTup 2 (hCons (hName 4) (hCons (hName 5) hNil))) l__law_stabbed_3)
    (sRet (nVal (eTup (aCons (eCb cTuple (aCons (eVar 2) aNil)) (aCons (eJoin (eC (.str [])) (eFrz (nCb cSortX (aCons (eVar 3) aNil)))) aNil)))))))
def m__law_stabbed : Rho → Option (T × Rho) := runD 7 b__law_stabbed
theorem w__law_stabbed (D : Dn K mg "_law_stabbed" s__law_stabbed ["word"] f fd) (d__law_spans : Dg P w K mg base cm 1 "_law_spans" ["word"] m__law_spans) (z_sorted : mg "sorted" = none) (z_tuple : mg "tuple" = none) : FnG P w K mg base cm 2 f fd ["word"] m__law_stabbed := fd_ok D.F (N := ["word", "spans", "gaps", "some", "end", "letter", "each", "gap"]) sc__law_stabbed fun cdv A outer s H E hr => by
  have S := sc__law_stabbed
  have hu := hu_of hr
  have hv := hr.units
  have hc : (cxOf CX0 P w K mg base ["word", "spans", "gaps", "some", "end", "letter", "each", "gap"] "_law_stabbed" (defScope s__law_stabbed) f cdv A outer s H E).nox.calm = true := rfl
  exact (fss_cons (fs_parsT (is := [1, 2, 3]) hc (fm_cons (fn_call d__law_spans hr (by decide) (by rfl) (fa_cons (fe_keep (pv 0)) fa_nil)) (fm_cons (fn_lst fa_nil) (fm_cons (fn_lst fa_nil) fm_nil))) (pgn_cons (pg_name (i := 1) S.nd rfl (by first | exact .inl rfl | exact .inr rfl)) (pgn_cons (pg_name (i := 2) S.nd rfl (by first | exact .inl rfl | exact .inr rfl)) (pgn_cons (pg_name (i := 3) S.nd rfl (by first | exact .inl rfl | exact .inr rfl)) pgn_nil))))
    (fss_cons (fs_for PassesOwn.never hc (fi_seq (fe_frz (fn_cb (cr_sortedDt (hu3 hr)) rc_sortDt rfl z_sorted (by decide +kernel) (fa_cons (fe_frz (fn_lcK (own := [("each", 6)]) hc S.nd (pv 1) (blkOk_by (by rfl)) (fun _ _ _ _ _ => (fg_name (pg_name (i := 6) S.nd rfl (by first | exact .inl rfl | exact .inr rfl)))) (fun _ _ _ _ _ => fts_nil) (fun _ _ _ _ _ => (fe_tup (fa_cons (fe_ix hu (fe_ix hu (fe_var (pv 1)) (fe_var (pv 6))) fe_int) (fa_cons (fe_keep (pv 6)) fa_nil)))) (by decide))) fa_nil)))) (fg_tup hc (fgs_cons (fg_name (pg_name (i := 4) S.nd rfl (by first | exact .inl rfl | exact .inr rfl))) (fgs_cons (fg_name (pg_name (i := 5) S.nd rfl (by first | exact .inl rfl | exact .inr rfl))) fgs_nil))) (fss_one (fs_if (fb_cmp (op_eqD hv) ro_eq (fe_frz (fn_lcOL (own := [("gap", 7)]) hc S.nd (fe_keep (pv 2)) (blkOk_by (by rfl)) (fun _ _ _ _ _ => (fg_name (pg_name (i := 7) S.nd rfl (by first | exact .inl rfl | exact .inr rfl)))) (fun _ _ _ _ _ => (fts_one (fb_chain op_leA op_ltA ro_le ro_lt (fe_ix hu (fe_ix hu (fe_var (pv 1)) (fe_var (pv 5))) fe_int) (fe_var (pv 7)) (fe_var (pv 4))))) (fun _ _ _ _ _ => (fe_keep (pv 7))) (by decide))) (fe_frz (fn_lst fa_nil)) (nomark _)) (fss_cons (fs_expr (fe_mt PySem.F.slot_list_append PySem.F.type_list_append mt_append rm_app (pv 2) (fa_cons (fe_op op_sub ro_sub (fe_var (pv 4)) fe_int) fa_nil)))
    (fss_one (fs_expr (fe_mt PySem.F.slot_list_append PySem.F.type_list_append mt_append rm_app (pv 3) (fa_cons (fe_keep (pv 5)) fa_nil))))) fss_nil)))
    (fss_one (fs_ret (fn_val (fe_tup (fa_cons (fe_ct call_tuple_of rc_tuple rfl z_tuple (by decide +kernel) (fa_cons (fe_var (pv 2)) fa_nil)) (fa_cons (fe_join (fe_str (s := []) (by decide +kernel)) (fe_frz (fn_cb (cr_sortedX hc) rc_sortX rfl z_sorted (by decide +kernel) (fa_cons (fe_var (pv 3)) fa_nil)))) fa_nil))))))))
abbrev s_side_by_side_by : Stmt := top 17
theorem sc_side_by_side_by : FnScope ["word"] ["word"] (defScope s_side_by_side_by) := ⟨rfl, rfl, rfl, by decide +kernel, rfl, by decide +kernel, by decide +kernel⟩
def b_side_by_side_by : Sm := (sRet (nVal (eJoin (eC (.str [])) (eFrz (nCb cSortX (aCons (eFrz (nCall 1 m_stabbed_letters (aCons (eKeep 0) aNil))) aNil))))))
def m_side_by_side_by : Rho → Option (T × Rho) := runD 0 b_side_by_side_by
theorem w_side_by_side_by (D : Dn K mg "side_by_side_by" s_side_by_side_by ["word"] f fd) (d_stabbed_letters : Dg P w K mg base cm 4 "stabbed_letters" ["word"] m_stabbed_letters) (z_sorted : mg "sorted" = none) : FnG P w K mg base cm 5 f fd ["word"] m_side_by_side_by := fd_ok D.F (N := ["word"]) sc_side_by_side_by fun cdv A outer s H E hr => by
  have S := sc_side_by_side_by
  have hu := hu_of hr
  have hv := hr.units
  have hc : (cxOf CX0 P w K mg base ["word"] "side_by_side_by" (defScope s_side_by_side_by) f cdv A outer s H E).nox.calm = true := rfl
  exact (fss_one (fs_ret (fn_val (fe_join (fe_str (s := []) (by decide +kernel)) (fe_frz (fn_cb (cr_sortedX hc) rc_sortX rfl z_sorted (by decide +kernel) (fa_cons (fe_frz (fn_call d_stabbed_letters hr (by decide) (by rfl) (fa_cons (fe_keep (pv 0)) fa_nil))) fa_nil)))))))
abbrev s_side_by_side : Stmt := top 27
theorem sc_side_by_side : FnScope ["word"] ["word"] (defScope s_side_by_side) := ⟨rfl, rfl, rfl, by decide +kernel, rfl, by decide +kernel, by decide +kernel⟩
def b_side_by_side : Sm := (sSeq (sE (eFrz (nCall 1 m_check_word (aCons (eKeep 0) aNil))))
    (sRet (nCall 1 m_side_by_side_by (aCons (eKeep 0) aNil))))
def m_side_by_side : Rho → Option (T × Rho) := runD 0 b_side_by_side
theorem w_side_by_side (D : Dn K mg "side_by_side" s_side_by_side ["word"] f fd) (d_check_word : Dg P w K mg base cm 3 "check_word" ["word"] m_check_word) (d_side_by_side_by : Dg P w K mg base cm 5 "side_by_side_by" ["word"] m_side_by_side_by) : FnG P w K mg base cm 6 f fd ["word"] m_side_by_side := fd_ok D.F (N := ["word"]) sc_side_by_side fun cdv A outer s H E hr => by
  have S := sc_side_by_side
  have hu := hu_of hr
  have hv := hr.units
  have hc : (cxOf CX0 P w K mg base ["word"] "side_by_side" (defScope s_side_by_side) f cdv A outer s H E).nox.calm = true := rfl
  exact (fss_cons (fs_expr (fe_frz (fn_call d_check_word hr (by decide) (by rfl) (fa_cons (fe_keep (pv 0)) fa_nil))))
    (fss_one (fs_ret (fn_call d_side_by_side_by hr (by decide) (by rfl) (fa_cons (fe_keep (pv 0)) fa_nil)))))
abbrev s__law_are_beside : Stmt := top 38
theorem sc__law_are_beside : FnScope ["spans", "one", "other"] ["spans", "one", "other"] (defScope s__law_are_beside) := ⟨rfl, rfl, rfl, by decide +kernel, rfl, by decide +kernel, by decide +kernel⟩
def b__law_are_beside : Sm := (sRet (nVal (eOr (eOp cLt (eIx (eIx (eVar 0) (eVar 1)) (eC (.int 1))) (eIx (eIx (eVar 0) (eVar 2)) (eC (.int 0)))) (eOp cLt (eIx (eIx (eVar 0) (eVar 2)) (eC (.int 1))) (eIx (eIx (eVar 0) (eVar 1)) (eC (.int 0)))))))
def m__law_are_beside : Rho → Option (T × Rho) := runD 0 b__law_are_beside
theorem w__law_are_beside (D : Dn K mg "_law_are_beside" s__law_are_beside ["spans", "one", "other"] f fd)  : FnG P w K mg base cm 1 f fd ["spans", "one", "other"] m__law_are_beside := fd_ok D.F (N := ["spans", "one", "other"]) sc__law_are_beside fun cdv A outer s H E hr => by
  have S := sc__law_are_beside
  have hu := hu_of hr
  have hv := hr.units
  have hc : (cxOf CX0 P w K mg base ["spans", "one", "other"] "_law_are_beside" (defScope s__law_are_beside) f cdv A outer s H E).nox.calm = true := rfl
  exact (fss_one (fs_ret (fn_val (fe_or (fe_cmp op_ltA ro_lt (fe_ix hu (fe_ix hu (fe_var (pv 0)) (fe_var (pv 1))) fe_int) (fe_ix hu (fe_ix hu (fe_var (pv 0)) (fe_var (pv 2))) fe_int) (nomark _)) (fe_one (fe_cmp op_ltA ro_lt (fe_ix hu (fe_ix hu (fe_var (pv 0)) (fe_var (pv 2))) fe_int) (fe_ix hu (fe_ix hu (fe_var (pv 0)) (fe_var (pv 1))) fe_int) (nomark _)))))))
abbrev s__law_stabs_asked : Stmt := top 46
theorem sc__law_stabs_asked : FnScope ["word", "due", "spans", "letter", "other", "gap", "one"] ["word"] (defScope s__law_stabs_asked) := ⟨rfl, rfl, rfl, by decide +kernel, rfl, by decide +kernel, by decide +kernel⟩
def e__law_stabs_asked_1 : Em := (eKeep 5)
def e__law_stabs_asked_2 : Em := (eOp cNe (eFrz (nLc [5] (iSeq (eIx (eVar 1) (eC (.int 0)))) (hName 5) (bOf (eChain cLe cLt (eIx (eIx (eVar 2) (eVar 3)) (eC (.int 0))) (eVar 5) (eIx (eIx (eVar 2) (eVar 3)) (eC (.int 1))))) e__law_stabs_asked_1)) (eFrz (nLst aNil)))
def e__law_stabs_asked_3 : Em := (eKeep 6)
def e__law_stabs_asked_4 : Em := (eOp cEq (eFrz (nLc [6] (iSeq (eIx (eVar 1) (eC (.int 1)))) (hName 6) (bAnd (bOf (eOp cNe (eVar 6) (eVar 4))) (bNot (bOf (eFrz (nCall 3 m__law_are_beside (aCons (eKeep 2) (aCons (eKeep 6) (aCons (eKeep 4) aNil)))))))) e__law_stabs_asked_3)) (eFrz (nLst aNil)))
def b__law_stabs_asked : Sm := (sSeq (sPars [1, 2] (mCons (nCall 1 m__law_stabbed (aCons (eKeep 0) aNil)) (mCons (nCall 1 m__law_spans (aCons (eKeep 0) aNil)) mNil)))
    (sSeq (sIf (bOr (bNot (bOf (eFrz (nCall 2 (m__law_same 4) (aCons (eFrz (nCall 1 m_stabs (aCons (eKeep 0) aNil))) (aCons (eIx (eVar 1) (eC (.int 0))) aNil)))))) (bNot (bOf (eFrz (nCall 2 (m__law_same 4) (aCons (eFrz (nCallK 1 [0] m_stabs (aCons (eKeep 0) aNil))) (aCons (eIx (eVar 1) (eC (.int 0))) aNil))))))) (sRet (nVal (eC (.bl false)))) sNil)
    (sSeq (sIf (bOr (bNot (bOf (eFrz (nCall 2 (m__law_same 4) (aCons (eFrz (nCall 1 m_side_by_side (aCons (eKeep 0) aNil))) (aCons (eIx (eVar 1) (eC (.int 1))) aNil)))))) (bNot (bOf (eFrz (nCall 2 (m__law_same 4) (aCons (eFrz (nCallK 1 [0] m_side_by_side (aCons (eKeep 0) aNil))) (aCons (eIx (eVar 1) (eC (.int 1))) aNil))))))) (sRet (nVal (eC (.bl false)))) sNil)
    (sSeq (sIf (bNot (bOf (eCb cAll (aCons (eFrz (nLc [3] (iKey 2) (hName 3) bYes e__law_stabs_asked_2)) aNil)))) (sRet (nVal (eC (.bl false)))) sNil)
    (sRet (nVal (eAnd (eOp cEq (eCb cLen (aCons (eIx (eVar 1) (eC (.int 0))) aNil)) (eCb cLen (aCons (eIx (eVar 1) (eC (.int 1))) aNil))) (eCb cAll (aCons (eFrz (nLc [4] (iSeq (eIx (eVar 1) (eC (.int 1)))) (hName 4) bYes e__law_stabs_asked_4)) aNil)))))))))
def m__law_stabs_asked : Rho → Option (T × Rho) := runD 6 b__law_stabs_asked
theorem w__law_stabs_asked (D : Dn K mg "_law_stabs_asked" s__law_stabs_asked ["word"] f fd) (d__law_spans : Dg P w K mg base cm 1 "_law_spans" ["word"] m__law_spans) (d__law_stabbed : Dg P w K mg base cm 2 "_law_stabbed" ["word"] m__law_stabbed) (d__law_same : Dg P w K mg base cm 4 "_law_same" ["told", "due"] (m__law_same 4)) (d_stabs : Dg P w K mg base cm 6 "stabs" ["word"] m_stabs) (d_side_by_side : Dg P w K mg base cm 6 "side_by_side" ["word"] m_side_by_side) (d__law_are_beside : Dg P w K mg base cm 1 "_law_are_beside" ["spans", "one", "other"] m__law_are_beside) (dk_stabs_0 : Dk P w K mg base cm 6 "stabs" ["word"] ["word"] [0] m_stabs) (dk_side_by_side_0 : Dk P w K mg base cm 6 "side_by_side" ["word"] ["word"] [0] m_side_by_side) (z_all : mg "all" = none) (z_len : mg "len" = none) : FnG P w K mg base cm 7 f fd ["word"] m__law_stabs_asked := fd_ok D.F (N := ["word", "due", "spans", "letter", "other", "gap", "one"]) sc__law_stabs_asked fun cdv A outer s H E hr => by
  have S := sc__law_stabs_asked
  have hu := hu_of hr
  have hv := hr.units
  have hc : (cxOf CX0 P w K mg base ["word", "due", "spans", "letter", "other", "gap", "one"] "_law_stabs_asked" (defScope s__law_stabs_asked) f cdv A outer s H E).nox.calm = true := rfl
  exact (fss_cons (fs_parsT (is := [1, 2]) hc (fm_cons (fn_call d__law_stabbed hr (by decide) (by rfl) (fa_cons (fe_keep (pv 0)) fa_nil)) (fm_cons (fn_call d__law_spans hr (by decide) (by rfl) (fa_cons (fe_keep (pv 0)) fa_nil)) fm_nil)) (pgn_cons (pg_name (i := 1) S.nd rfl (by first | exact .inl rfl | exact .inr rfl)) (pgn_cons (pg_name (i := 2) S.nd rfl (by first | exact .inl rfl | exact .inr rfl)) pgn_nil)))
    (fss_cons (fs_if (fb_w (fw_or (fb_not (fb_val (fe_frz (fn_call d__law_same hr (by decide) (by rfl) (fa_cons (fe_frz (fn_call d_stabs hr (by decide) (by rfl) (fa_cons (fe_keep (pv 0)) fa_nil))) (fa_cons (fe_ix hu (fe_var (pv 1)) fe_int) fa_nil)))))) (fw_one (fb_not (fb_val (fe_frz (fn_call d__law_same hr (by decide) (by rfl) (fa_cons (fe_frz (fn_callK dk_stabs_0 hr (by decide) (by rfl) (fk_cons (fe_keep (pv 0)) fk_nil))) (fa_cons (fe_ix hu (fe_var (pv 1)) fe_int) fa_nil)))))) (by first | exact .inl rfl | exact .inr rfl)))) (fss_one (fs_ret (fn_val fe_bl))) fss_nil)
    (fss_cons (fs_if (fb_w (fw_or (fb_not (fb_val (fe_frz (fn_call d__law_same hr (by decide) (by rfl) (fa_cons (fe_frz (fn_call d_side_by_side hr (by decide) (by rfl) (fa_cons (fe_keep (pv 0)) fa_nil))) (fa_cons (fe_ix hu (fe_var (pv 1)) fe_int) fa_nil)))))) (fw_one (fb_not (fb_val (fe_frz (fn_call d__law_same hr (by decide) (by rfl) (fa_cons (fe_frz (fn_callK dk_side_by_side_0 hr (by decide) (by rfl) (fk_cons (fe_keep (pv 0)) fk_nil))) (fa_cons (fe_ix hu (fe_var (pv 1)) fe_int) fa_nil)))))) (by first | exact .inl rfl | exact .inr rfl)))) (fss_one (fs_ret (fn_val fe_bl))) fss_nil)
    (fss_cons (fs_if (fb_not (fb_val (fe_cb (cr_all hc) rc_all rfl z_all (by decide +kernel) (fa_cons (fe_frz (fn_lcK (own := [("letter", 3)]) hc S.nd (pv 2) (blkOk_by (by rfl)) (fun _ _ _ _ _ => (fg_name (pg_name (i := 3) S.nd rfl (by first | exact .inl rfl | exact .inr rfl)))) (fun _ _ _ _ _ => fts_nil) (fun _ _ _ _ _ => (fe_cmp (op_neD hv) ro_ne (fe_frz (fn_lc (own := [("gap", 5)]) hc S.nd (fi_seq (fe_ix hu (fe_var (pv 1)) fe_int)) (blkOk_by (by rfl)) (fun _ _ _ _ _ => (fg_name (pg_name (i := 5) S.nd rfl (by first | exact .inl rfl | exact .inr rfl)))) (fun _ _ _ _ _ => (fts_one (fb_chain op_leA op_ltA ro_le ro_lt (fe_ix hu (fe_ix hu (fe_var (pv 2)) (fe_var (pv 3))) fe_int) (fe_var (pv 5)) (fe_ix hu (fe_ix hu (fe_var (pv 2)) (fe_var (pv 3))) fe_int)))) (fun _ _ _ _ _ => (fe_keep (pv 5))) (by decide))) (fe_frz (fn_lst fa_nil)) (nomark _))) (by decide))) fa_nil)))) (fss_one (fs_ret (fn_val fe_bl))) fss_nil)
    (fss_one (fs_ret (fn_val (fe_and (fe_cmp (op_eqD hv) ro_eq (fe_cb call_len rc_len rfl z_len (by decide +kernel) (fa_cons (fe_ix hu (fe_var (pv 1)) fe_int) fa_nil)) (fe_cb call_len rc_len rfl z_len (by decide +kernel) (fa_cons (fe_ix hu (fe_var (pv 1)) fe_int) fa_nil)) (nomark _)) (fe_one (fe_cb (cr_all hc) rc_all rfl z_all (by decide +kernel) (fa_cons (fe_frz (fn_lc (own := [("other", 4)]) hc S.nd (fi_seq (fe_ix hu (fe_var (pv 1)) fe_int)) (blkOk_by (by rfl)) (fun _ _ _ _ _ => (fg_name (pg_name (i := 4) S.nd rfl (by first | exact .inl rfl | exact .inr rfl)))) (fun _ _ _ _ _ => fts_nil) (fun _ _ _ _ _ => (fe_cmp (op_eqD hv) ro_eq (fe_frz (fn_lc (own := [("one", 6)]) hc S.nd (fi_seq (fe_ix hu (fe_var (pv 1)) fe_int)) (blkOk_by (by rfl)) (fun _ _ _ _ _ => (fg_name (pg_name (i := 6) S.nd rfl (by first | exact .inl rfl | exact .inr rfl)))) (fun _ _ _ _ _ => (fts_one (fb_w (fw_and (fb_cmp (op_neD hv) ro_ne (fe_var (pv 6)) (fe_var (pv 4)) (nomark _)) (fw_one (fb_not (fb_val (fe_frz (fn_call d__law_are_beside hr (by decide) (by rfl) (fa_cons (fe_keep (pv 2)) (fa_cons (fe_keep (pv 6)) (fa_cons (fe_keep (pv 4)) fa_nil))))))) (by first | exact .inl rfl | exact .inr rfl)))))) (fun _ _ _ _ _ => (fe_keep (pv 6))) (by decide))) (fe_frz (fn_lst fa_nil)) (nomark _))) (by decide))) fa_nil)))))))))))
abbrev s__law_stabs : Stmt := top 47
theorem sc__law_stabs : FnScope ["well", "word", "left", "again", "both", "each", "k", "gap"] ["well"] (defScope s__law_stabs) := ⟨rfl, rfl, rfl, by decide +kernel, rfl, by decide +kernel, by decide +kernel⟩
def e__law_stabs_1 : Em := (eKeep 5)
def e__law_stabs_2 : Em := (eOp cAdd (eIx (eVar 2) (eVar 6)) (eIx (eVar 2) (eVar 6)))
def e__law_stabs_3 : Em := (eOp cAdd (eVar 7) (eCb cLen (aCons (eVar 1) aNil)))
def b__law_stabs : Sm := (sSeq (sAsg 1 (nCallO 2 0 m__law_word (aCons (eVar 0) (aCons (eFrz (nCallO 2 0 m__law_pick (aCons (eVar 0) (aCons (eFrz (nLst (aCons (eC (.int 0)) (aCons (eC (.int 1)) (aCons (eC (.int 2)) (aCons (eC (.int 4)) (aCons (eC (.int 7)) (aCons (eC (.int 12)) (aCons (eFrz (nCallO 2 0 m__law_take (aCons (eVar 0) (aCons (eC (.int 13)) aNil)))) aNil))))))))) aNil)))) aNil))))
    (sSeq (sIf (bOr (bNot (bOf (eFrz (nCall 1 m__law_stabs_asked (aCons (eKeep 1) aNil))))) (bOr (bNot (bOf (eFrz (nCall 1 m__law_stabs_asked (aCons (eRevT (eVar 1)) aNil))))) (bOf (eOp cNe (eCb cLen (aCons (eFrz (nCall 1 m_stabs (aCons (eKeep 1) aNil))) aNil)) (eCb cLen (aCons (eFrz (nCall 1 m_stabs (aCons (eRevT (eVar 1)) aNil))) aNil)))))) (sRet (nVal (eC (.bl false)))) sNil)
    (sSeq (sAsg 2 (nLc [5] (iSeq (eC (.str [97, 98, 99, 100, 101, 102, 103, 104, 105, 106, 107, 108]))) (hName 5) (bOf (eOp cNi (eVar 5) (eVar 1))) e__law_stabs_1))
    (sSeq (sAsg 3 (nVal (eJoin (eC (.str [])) (eFrz (nLc [6] (iRng1 (aCons (eFrz (nCallO 2 0 m__law_take (aCons (eVar 0) (aCons (eOp cAdd (eCb cLen (aCons (eVar 2) aNil)) (eC (.int 1))) aNil)))) aNil)) (hName 6) bYes e__law_stabs_2)))))
    (sSeq (sIf (bAnd (bOf (eOp cGt (eCb cLen (aCons (eVar 2) aNil)) (eC (.int 2)))) (bOf (eOp cEq (eFrz (nCallO 2 0 m__law_take (aCons (eVar 0) (aCons (eC (.int 2)) aNil)))) (eC (.int 0))))) (sAsg 3 (nVal (eOp cAdd (eOp cAdd (eOp cAdd (eOp cAdd (eOp cAdd (eIx (eVar 2) (eC (.int 0))) (eIx (eVar 2) (eC (.int 1)))) (eIx (eVar 2) (eC (.int 2)))) (eIx (eVar 2) (eC (.int 0)))) (eIx (eVar 2) (eC (.int 2)))) (eIx (eVar 2) (eC (.int 1)))))) sNil)
    (sSeq (sAsg 4 (nCall 1 m_stabs (aCons (eOp cAdd (eVar 1) (eVar 3)) aNil)))
    (sRet (nVal (eAnd (eFrz (nCall 1 m__law_stabs_asked (aCons (eOp cAdd (eVar 1) (eVar 3)) aNil))) (eFrz (nCall 2 (m__law_same 4) (aCons (eKeep 4) (aCons (eOp cAdd (eFrz (nCall 1 m_stabs (aCons (eKeep 1) aNil))) (eCb cTuple (aCons (eFrz (nLc [7] (iSeq (eFrz (nCall 1 m_stabs (aCons (eKeep 3) aNil)))) (hName 7) bYes e__law_stabs_3)) aNil))) aNil)))))))))))))
def m__law_stabs : Rho → Option (T × Rho) := runD 7 b__law_stabs
theorem w__law_stabs (D : Dn K mg "_law_stabs" s__law_stabs ["well"] f fd) (d__law_word : Dg P w K mg base cm 3 "_law_word" ["well", "many"] m__law_word) (d__law_pick : Dg P w K mg base cm 2 "_law_pick" ["well", "some"] m__law_pick) (d__law_take : Dg P w K mg base cm 1 "_law_take" ["well", "many"] m__law_take) (d__law_stabs_asked : Dg P w K mg base cm 7 "_law_stabs_asked" ["word"] m__law_stabs_asked) (d_stabs : Dg P w K mg base cm 6 "stabs" ["word"] m_stabs) (d__law_same : Dg P w K mg base cm 4 "_law_same" ["told", "due"] (m__law_same 4)) (z_len : mg "len" = none) (z_range : mg "range" = none) (z_tuple : mg "tuple" = none) : FnG P w K mg base cm 8 f fd ["well"] m__law_stabs := fd_ok D.F (N := ["well", "word", "left", "again", "both", "each", "k", "gap"]) sc__law_stabs fun cdv A outer s H E hr => by
  have S := sc__law_stabs
  have hu := hu_of hr
  have hv := hr.units
  have hc : (cxOf CX0 P w K mg base ["well", "word", "left", "again", "both", "each", "k", "gap"] "_law_stabs" (defScope s__law_stabs) f cdv A outer s H E).nox.calm = true := rfl
  exact (fss_cons (fs_asg (i := 1) S.nd rfl (by first | exact .inl rfl | exact .inr rfl) (fn_callO (j0 := 0) d__law_word hr (by decide) (by rfl) (fa_cons (fe_var (pv 0)) (fa_cons (fe_frz (fn_callO (j0 := 0) d__law_pick hr (by decide) (by rfl) (fa_cons (fe_var (pv 0)) (fa_cons (fe_frz (fn_lst (fa_cons fe_int (fa_cons fe_int (fa_cons fe_int (fa_cons fe_int (fa_cons fe_int (fa_cons fe_int (fa_cons (fe_frz (fn_callO (j0 := 0) d__law_take hr (by decide) (by rfl) (fa_cons (fe_var (pv 0)) (fa_cons fe_int fa_nil)))) fa_nil))))))))) fa_nil)))) fa_nil))))
    (fss_cons (fs_if (fb_w (fw_or (fb_not (fb_val (fe_frz (fn_call d__law_stabs_asked hr (by decide) (by rfl) (fa_cons (fe_keep (pv 1)) fa_nil))))) (fw_or (fb_not (fb_val (fe_frz (fn_call d__law_stabs_asked hr (by decide) (by rfl) (fa_cons (fe_revT (fe_var (pv 1))) fa_nil))))) (fw_one (fb_cmp (op_neD hv) ro_ne (fe_cb call_len rc_len rfl z_len (by decide +kernel) (fa_cons (fe_frz (fn_call d_stabs hr (by decide) (by rfl) (fa_cons (fe_keep (pv 1)) fa_nil))) fa_nil)) (fe_cb call_len rc_len rfl z_len (by decide +kernel) (fa_cons (fe_frz (fn_call d_stabs hr (by decide) (by rfl) (fa_cons (fe_revT (fe_var (pv 1))) fa_nil))) fa_nil)) (nomark _)) (by first | exact .inl rfl | exact .inr rfl))))) (fss_one (fs_ret (fn_val fe_bl))) fss_nil)
    (fss_cons (fs_asg (i := 2) S.nd rfl (by first | exact .inl rfl | exact .inr rfl) (fn_lc (own := [("each", 5)]) hc S.nd (fi_seq (fe_str (s := [97, 98, 99, 100, 101, 102, 103, 104, 105, 106, 107, 108]) (by decide +kernel))) (blkOk_by (by rfl)) (fun _ _ _ _ _ => (fg_name (pg_name (i := 5) S.nd rfl (by first | exact .inl rfl | exact .inr rfl)))) (fun _ _ _ _ _ => (fts_one (fb_cmp op_ninA ro_nin (fe_var (pv 5)) (fe_var (pv 1)) (by with_unfolding_all rfl)))) (fun _ _ _ _ _ => (fe_keep (pv 5))) (by decide)))
    (fss_cons (fs_asg (i := 3) S.nd rfl (by first | exact .inl rfl | exact .inr rfl) (fn_val (fe_join (fe_str (s := []) (by decide +kernel)) (fe_frz (fn_lc (own := [("k", 6)]) hc S.nd (fi_rng1 rfl z_range (fa_cons (fe_frz (fn_callO (j0 := 0) d__law_take hr (by decide) (by rfl) (fa_cons (fe_var (pv 0)) (fa_cons (fe_op op_addA ro_add (fe_cb call_len rc_len rfl z_len (by decide +kernel) (fa_cons (fe_var (pv 2)) fa_nil)) fe_int) fa_nil)))) fa_nil)) (blkOk_by (by rfl)) (fun _ _ _ _ _ => (fg_name (pg_name (i := 6) S.nd rfl (by first | exact .inl rfl | exact .inr rfl)))) (fun _ _ _ _ _ => fts_nil) (fun _ _ _ _ _ => (fe_op op_addA ro_add (fe_ix hu (fe_var (pv 2)) (fe_var (pv 6))) (fe_ix hu (fe_var (pv 2)) (fe_var (pv 6))))) (by decide))))))
    (fss_cons (fs_if (fb_w (fw_and (fb_cmp op_gtA ro_gt (fe_cb call_len rc_len rfl z_len (by decide +kernel) (fa_cons (fe_var (pv 2)) fa_nil)) fe_int (nomark _)) (fw_one (fb_cmp (op_eqD hv) ro_eq (fe_frz (fn_callO (j0 := 0) d__law_take hr (by decide) (by rfl) (fa_cons (fe_var (pv 0)) (fa_cons fe_int fa_nil)))) fe_int (nomark _)) (by first | exact .inl rfl | exact .inr rfl)))) (fss_one (fs_asg (i := 3) S.nd rfl (by first | exact .inl rfl | exact .inr rfl) (fn_val (fe_op op_addA ro_add (fe_op op_addA ro_add (fe_op op_addA ro_add (fe_op op_addA ro_add (fe_op op_addA ro_add (fe_ix hu (fe_var (pv 2)) fe_int) (fe_ix hu (fe_var (pv 2)) fe_int)) (fe_ix hu (fe_var (pv 2)) fe_int)) (fe_ix hu (fe_var (pv 2)) fe_int)) (fe_ix hu (fe_var (pv 2)) fe_int)) (fe_ix hu (fe_var (pv 2)) fe_int))))) fss_nil)
    (fss_cons (fs_asg (i := 4) S.nd rfl (by first | exact .inl rfl | exact .inr rfl) (fn_call d_stabs hr (by decide) (by rfl) (fa_cons (fe_op op_addA ro_add (fe_var (pv 1)) (fe_var (pv 3))) fa_nil)))
    (fss_one (fs_ret (fn_val (fe_and (fe_frz (fn_call d__law_stabs_asked hr (by decide) (by rfl) (fa_cons (fe_op op_addA ro_add (fe_var (pv 1)) (fe_var (pv 3))) fa_nil))) (fe_one (fe_frz (fn_call d__law_same hr (by decide) (by rfl) (fa_cons (fe_keep (pv 4)) (fa_cons (fe_op op_addA ro_add (fe_frz (fn_call d_stabs hr (by decide) (by rfl) (fa_cons (fe_keep (pv 1)) fa_nil))) (fe_ct call_tuple_of rc_tuple rfl z_tuple (by decide +kernel) (fa_cons (fe_frz (fn_lc (own := [("gap", 7)]) hc S.nd (fi_seq (fe_frz (fn_call d_stabs hr (by decide) (by rfl) (fa_cons (fe_keep (pv 3)) fa_nil)))) (blkOk_by (by rfl)) (fun _ _ _ _ _ => (fg_name (pg_name (i := 7) S.nd rfl (by first | exact .inl rfl | exact .inr rfl)))) (fun _ _ _ _ _ => fts_nil) (fun _ _ _ _ _ => (fe_op op_addA ro_add (fe_var (pv 7)) (fe_cb call_len rc_len rfl z_len (by decide +kernel) (fa_cons (fe_var (pv 1)) fa_nil)))) (by decide))) fa_nil))) fa_nil)))))))))))))))
abbrev s_law : Stmt := top 48
theorem sc_law : FnScope ["script", "turn", "well"] ["script"] (defScope s_law) := ⟨rfl, rfl, rfl, by decide +kernel, rfl, by decide +kernel, by decide +kernel⟩
def l_law_1 : Sm := (sSeq (sAsg 2 (nCall 2 m__law_well (aCons (eKeep 0) (aCons (eKeep 1) aNil))))
    (sIf (bOr (bNot (bOf (eFrz (nCallO 1 0 m__law_turn (aCons (eVar 2) aNil))))) (bNot (bOf (eFrz (nCallO 1 0 m__law_stabs (aCons (eVar 2) aNil)))))) (sRet (nVal (eC (.bl false)))) sNil))
def b_law : Sm := (sSeq (sFor (iRng1 (aCons (eCb cMax2 (aCons (eC (.int 5)) (aCons (eCb cMin2 (aCons (eCb cLen (aCons (eVar 0) aNil)) (aCons (eC (.int 8)) aNil))) aNil))) aNil)) (hName 1) l_law_1)
    (sRet (nVal (eC (.bl true)))))
def m_law : Rho → Option (T × Rho) := runD 2 b_law
theorem w_law (D : Dn K mg "law" s_law ["script"] f fd) (d__law_well : Dg P w K mg base cm 1 "_law_well" ["script", "turn"] m__law_well) (d__law_turn : Dg P w K mg base cm 8 "_law_turn" ["well"] m__law_turn) (d__law_stabs : Dg P w K mg base cm 8 "_law_stabs" ["well"] m__law_stabs) (z_len : mg "len" = none) (z_max : mg "max" = none) (z_min : mg "min" = none) (z_range : mg "range" = none) : FnG P w K mg base cm 9 f fd ["script"] m_law := fd_ok D.F (N := ["script", "turn", "well"]) sc_law fun cdv A outer s H E hr => by
  have S := sc_law
  have hu := hu_of hr
  have hv := hr.units
  have hc : (cxOf CX0 P w K mg base ["script", "turn", "well"] "law" (defScope s_law) f cdv A outer s H E).nox.calm = true := rfl
  exact (fss_cons (fs_for PassesOwn.never hc (fi_rng1 rfl z_range (fa_cons (fe_cb (call_max2 hc) rc_max2 rfl z_max (by decide +kernel) (fa_cons fe_int (fa_cons (fe_cb (call_min2 hc) rc_min2 rfl z_min (by decide +kernel) (fa_cons (fe_cb call_len rc_len rfl z_len (by decide +kernel) (fa_cons (fe_var (pv 0)) fa_nil)) (fa_cons fe_int fa_nil))) fa_nil))) fa_nil)) (fg_name (pg_name (i := 1) S.nd rfl (by first | exact .inl rfl | exact .inr rfl))) (fss_cons (fs_asg (i := 2) S.nd rfl (by first | exact .inl rfl | exact .inr rfl) (fn_call d__law_well hr (by decide) (by rfl) (fa_cons (fe_keep (pv 0)) (fa_cons (fe_keep (pv 1)) fa_nil))))
    (fss_one (fs_if (fb_w (fw_or (fb_not (fb_val (fe_frz (fn_callO (j0 := 0) d__law_turn hr (by decide) (by rfl) (fa_cons (fe_var (pv 2)) fa_nil))))) (fw_one (fb_not (fb_val (fe_frz (fn_callO (j0 := 0) d__law_stabs hr (by decide) (by rfl) (fa_cons (fe_var (pv 2)) fa_nil))))) (by first | exact .inl rfl | exact .inr rfl)))) (fss_one (fs_ret (fn_val fe_bl))) fss_nil))))
    (fss_one (fs_ret (fn_val fe_bl))))
end
def kLaw : Nat := 9
section
variable {P : Program} {w : World} {K : PySem.W.Frag} {mg : Str → Option Value} {base : Heap} {cm : Cm}
theorem w_all {f__law_well : Addr} {fd__law_well : FuncData} (D__law_well : Dn K mg "_law_well" s__law_well ["script", "turn"] f__law_well fd__law_well) {f__law_take : Addr} {fd__law_take : FuncData} (D__law_take : Dn K mg "_law_take" s__law_take ["well", "many"] f__law_take fd__law_take) {f__law_pick : Addr} {fd__law_pick : FuncData} (D__law_pick : Dn K mg "_law_pick" s__law_pick ["well", "some"] f__law_pick fd__law_pick) {f__law_letters : Addr} {fd__law_letters : FuncData} (D__law_letters : Dn K mg "_law_letters" s__law_letters ["well", "many"] f__law_letters fd__law_letters) {f__law_word : Addr} {fd__law_word : FuncData} (D__law_word : Dn K mg "_law_word" s__law_word ["well", "many"] f__law_word fd__law_word) {f__law_own : Addr} {fd__law_own : FuncData} (D__law_own : Dn K mg "_law_own" s__law_own ["word"] f__law_own fd__law_own) {f_is_text_of : Addr} {fd_is_text_of : FuncData} (D_is_text_of : Dn K mg "is_text_of" s_is_text_of ["value", "signs"] f_is_text_of fd_is_text_of) {f_is_worded : Addr} {fd_is_worded : FuncData} (D_is_worded : Dn K mg "is_worded" s_is_worded ["value"] f_is_worded fd_is_worded) {f_check_word : Addr} {fd_check_word : FuncData} (D_check_word : Dn K mg "check_word" s_check_word ["word"] f_check_word fd_check_word) {f_by_first_ends : Addr} {fd_by_first_ends : FuncData} (D_by_first_ends : Dn K mg "by_first_ends" s_by_first_ends ["ends"] f_by_first_ends fd_by_first_ends) {f_as_told : Addr} {fd_as_told : FuncData} (D_as_told : Dn K mg "as_told" s_as_told ["ends", "numbers"] f_as_told fd_as_told) {f_letters_by : Addr} {fd_letters_by : FuncData} (D_letters_by : Dn K mg "letters_by" s_letters_by ["word"] f_letters_by fd_letters_by) {f_ends_by : Addr} {fd_ends_by : FuncData} (D_ends_by : Dn K mg "ends_by" s_ends_by ["word"] f_ends_by fd_ends_by) {f_least_free : Addr} {fd_least_free : FuncData} (D_least_free : Dn K mg "least_free" s_least_free ["taken"] f_least_free fd_least_free) {f_is_open : Addr} {fd_is_open : FuncData} (D_is_open : Dn K mg "is_open" s_is_open ["ends", "letter", "gap"] f_is_open fd_is_open) {f_seats_by : Addr} {fd_seats_by : FuncData} (D_seats_by : Dn K mg "seats_by" s_seats_by ["word"] f_seats_by fd_seats_by) {f_seats : Addr} {fd_seats : FuncData} (D_seats : Dn K mg "seats" s_seats ["word"] f_seats fd_seats) {f__law_seats : Addr} {fd__law_seats : FuncData} (D__law_seats : Dn K mg "_law_seats" s__law_seats ["word"] f__law_seats fd__law_seats) {f__law_spans : Addr} {fd__law_spans : FuncData} (D__law_spans : Dn K mg "_law_spans" s__law_spans ["word"] f__law_spans fd__law_spans) {f__law_open : Addr} {fd__law_open : FuncData} (D__law_open : Dn K mg "_law_open" s__law_open ["word", "gap"] f__law_open fd__law_open) {f__law_gap : Addr} {fd__law_gap : FuncData} (D__law_gap : Dn K mg "_law_gap" s__law_gap ["word"] f__law_gap fd__law_gap) {f__law_same : Addr} {fd__law_same : FuncData} (D__law_same : Dn K mg "_law_same" s__law_same ["told", "due"] f__law_same fd__law_same) {f_open_at : Addr} {fd_open_at : FuncData} (D_open_at : Dn K mg "open_at" s_open_at ["word", "gap"] f_open_at fd_open_at) {f_fullest_gap_by : Addr} {fd_fullest_gap_by : FuncData} (D_fullest_gap_by : Dn K mg "fullest_gap_by" s_fullest_gap_by ["word"] f_fullest_gap_by fd_fullest_gap_by) {f_fullest_gap : Addr} {fd_fullest_gap : FuncData} (D_fullest_gap : Dn K mg "fullest_gap" s_fullest_gap ["word"] f_fullest_gap fd_fullest_gap) {f__law_asked : Addr} {fd__law_asked : FuncData} (D__law_asked : Dn K mg "_law_asked" s__law_asked ["word"] f__law_asked fd__law_asked) {f__law_turn : Addr} {fd__law_turn : FuncData} (D__law_turn : Dn K mg "_law_turn" s__law_turn ["well"] f__law_turn fd__law_turn) {f_stabbed_letters : Addr} {fd_stabbed_letters : FuncData} (D_stabbed_letters : Dn K mg "stabbed_letters" s_stabbed_letters ["word"] f_stabbed_letters fd_stabbed_letters) {f_stabs_by : Addr} {fd_stabs_by : FuncData} (D_stabs_by : Dn K mg "stabs_by" s_stabs_by ["word"] f_stabs_by fd_stabs_by) {f_stabs : Addr} {fd_stabs : FuncData} (D_stabs : Dn K mg "stabs" s_stabs ["word"] f_stabs fd_stabs) {f__law_stabbed : Addr} {fd__law_stabbed : FuncData} (D__law_stabbed : Dn K mg "_law_stabbed" s__law_stabbed ["word"] f__law_stabbed fd__law_stabbed) {f_side_by_side_by : Addr} {fd_side_by_side_by : FuncData} (D_side_by_side_by : Dn K mg "side_by_side_by" s_side_by_side_by ["word"] f_side_by_side_by fd_side_by_side_by) {f_side_by_side : Addr} {fd_side_by_side : FuncData} (D_side_by_side : Dn K mg "side_by_side" s_side_by_side ["word"] f_side_by_side fd_side_by_side) {f__law_are_beside : Addr} {fd__law_are_beside : FuncData} (D__law_are_beside : Dn K mg "_law_are_beside" s__law_are_beside ["spans", "one", "other"] f__law_are_beside fd__law_are_beside) {f__law_stabs_asked : Addr} {fd__law_stabs_asked : FuncData} (D__law_stabs_asked : Dn K mg "_law_stabs_asked" s__law_stabs_asked ["word"] f__law_stabs_asked fd__law_stabs_asked) {f__law_stabs : Addr} {fd__law_stabs : FuncData} (D__law_stabs : Dn K mg "_law_stabs" s__law_stabs ["well"] f__law_stabs fd__law_stabs) {f_law : Addr} {fd_law : FuncData} (D_law : Dn K mg "law" s_law ["script"] f_law fd_law) (z_abs : mg "abs" = none) (z_all : mg "all" = none) (z_bool : mg "bool" = none) (z_divmod : mg "divmod" = none) (z_int : mg "int" = none) (z_isinstance : mg "isinstance" = none) (z_len : mg "len" = none) (z_list : mg "list" = none) (z_max : mg "max" = none) (z_min : mg "min" = none) (z_range : mg "range" = none) (z_set : mg "set" = none) (z_sorted : mg "sorted" = none) (z_str : mg "str" = none) (z_sum : mg "sum" = none) (z_tuple : mg "tuple" = none) (k_LETTERS : KC K cm mg "LETTERS" c_LETTERS) {c_by_first_ends P_by_first_ends : Addr} (TB_by_first_ends : LamX.TabB base mg c_by_first_ends P_by_first_ends) (hcd_by_first_ends : fd_by_first_ends.code = .ref c_by_first_ends) (hmT_by_first_ends : (P_by_first_ends, ("by_first_ends.<locals>.<lambda>" : Str)) ∈ cm.T) (huT_by_first_ends : ∀ p ∈ cm.T, p.1 = P_by_first_ends → p.2 = ("by_first_ends.<locals>.<lambda>" : Str)) {c_stabbed_letters P_stabbed_letters : Addr} (TB_stabbed_letters : LamX.TabB base mg c_stabbed_letters P_stabbed_letters) (hcd_stabbed_letters : fd_stabbed_letters.code = .ref c_stabbed_letters) (hmT_stabbed_letters : (P_stabbed_letters, ("stabbed_letters.<locals>.<lambda>" : Str)) ∈ cm.T) (huT_stabbed_letters : ∀ p ∈ cm.T, p.1 = P_stabbed_letters → p.2 = ("stabbed_letters.<locals>.<lambda>" : Str)) : FnG P w K mg base cm 9 f_law fd_law ["script"] m_law := by
  have g__law_well := w__law_well (P := P) (w := w) (base := base) (cm := cm) D__law_well z_abs z_int z_len z_sum
  have d__law_well := D__law_well.mk' g__law_well
  have g__law_take := w__law_take (P := P) (w := w) (base := base) (cm := cm) D__law_take z_divmod z_int
  have d__law_take := D__law_take.mk' g__law_take
  have g__law_pick := w__law_pick (P := P) (w := w) (base := base) (cm := cm) D__law_pick d__law_take z_len
  have d__law_pick := D__law_pick.mk' g__law_pick
  have g__law_letters := w__law_letters (P := P) (w := w) (base := base) (cm := cm) D__law_letters d__law_take z_len z_list z_range
  have d__law_letters := D__law_letters.mk' g__law_letters
  have g__law_word := w__law_word (P := P) (w := w) (base := base) (cm := cm) D__law_word d__law_take d__law_letters d__law_pick z_len z_min
  have d__law_word := D__law_word.mk' g__law_word
  have g__law_own := w__law_own (P := P) (w := w) (base := base) (cm := cm) D__law_own z_set z_sorted
  have d__law_own := D__law_own.mk' g__law_own
  have g_is_text_of := w_is_text_of (P := P) (w := w) (base := base) (cm := cm) D_is_text_of z_all z_isinstance z_str
  have d_is_text_of := D_is_text_of.mk' g_is_text_of
  have g_is_worded := w_is_worded (P := P) (w := w) (base := base) (cm := cm) D_is_worded d_is_text_of z_all k_LETTERS
  have d_is_worded := D_is_worded.mk' g_is_worded
  have g_check_word := w_check_word (P := P) (w := w) (base := base) (cm := cm) D_check_word d_is_worded
  have d_check_word := D_check_word.mk' g_check_word
  have g_by_first_ends := w_by_first_ends (P := P) (w := w) (base := base) (cm := cm) D_by_first_ends z_sorted TB_by_first_ends hcd_by_first_ends hmT_by_first_ends huT_by_first_ends
  have d_by_first_ends := D_by_first_ends.mk' g_by_first_ends
  have g_as_told := w_as_told (P := P) (w := w) (base := base) (cm := cm) D_as_told z_tuple
  have d_as_told := D_as_told.mk' g_as_told
  have g_letters_by := w_letters_by (P := P) (w := w) (base := base) (cm := cm) D_letters_by z_set z_sorted
  have d_letters_by := D_letters_by.mk' g_letters_by
  have g_ends_by := w_ends_by (P := P) (w := w) (base := base) (cm := cm) D_ends_by d_letters_by
  have d_ends_by := D_ends_by.mk' g_ends_by
  have g_least_free := w_least_free (P := P) (w := w) (base := base) (cm := cm) D_least_free 
  have d_least_free := D_least_free.mk' g_least_free
  have g_is_open := w_is_open (P := P) (w := w) (base := base) (cm := cm) D_is_open 
  have d_is_open := D_is_open.mk' g_is_open
  have g_seats_by := w_seats_by (P := P) (w := w) (base := base) (cm := cm) D_seats_by d_ends_by d_by_first_ends d_is_open d_least_free d_as_told
  have d_seats_by := D_seats_by.mk' g_seats_by
  have g_seats := w_seats (P := P) (w := w) (base := base) (cm := cm) D_seats d_check_word d_seats_by
  have d_seats := D_seats.mk' g_seats
  have dk_seats_0 := D_seats.mkK g_seats ["word"] [0] (fun _ _ _ _ _ _ ws hl => match ws, hl with | [_], _ => rfl)
  have g__law_seats := w__law_seats (P := P) (w := w) (base := base) (cm := cm) D__law_seats d__law_own z_len z_list z_range z_tuple
  have d__law_seats := D__law_seats.mk' g__law_seats
  have g__law_spans := w__law_spans (P := P) (w := w) (base := base) (cm := cm) D__law_spans z_len z_range
  have d__law_spans := D__law_spans.mk' g__law_spans
  have g__law_open := w__law_open (P := P) (w := w) (base := base) (cm := cm) D__law_open d__law_spans d__law_own
  have d__law_open := D__law_open.mk' g__law_open
  have g__law_gap := w__law_gap (P := P) (w := w) (base := base) (cm := cm) D__law_gap d__law_open z_len z_max z_range
  have d__law_gap := D__law_gap.mk' g__law_gap
  have g__law_same := w__law_same (P := P) (w := w) (base := base) (cm := cm) D__law_same z_all z_bool z_int z_isinstance z_len z_list z_range z_str z_tuple 4
  have d__law_same := D__law_same.mk' g__law_same
  have g_open_at := w_open_at (P := P) (w := w) (base := base) (cm := cm) D_open_at d_ends_by d_is_open
  have d_open_at := D_open_at.mk' g_open_at
  have g_fullest_gap_by := w_fullest_gap_by (P := P) (w := w) (base := base) (cm := cm) D_fullest_gap_by d_open_at z_len z_min z_range
  have d_fullest_gap_by := D_fullest_gap_by.mk' g_fullest_gap_by
  have g_fullest_gap := w_fullest_gap (P := P) (w := w) (base := base) (cm := cm) D_fullest_gap d_check_word d_fullest_gap_by
  have d_fullest_gap := D_fullest_gap.mk' g_fullest_gap
  have dk_fullest_gap_0 := D_fullest_gap.mkK g_fullest_gap ["word"] [0] (fun _ _ _ _ _ _ ws hl => match ws, hl with | [_], _ => rfl)
  have g__law_asked := w__law_asked (P := P) (w := w) (base := base) (cm := cm) D__law_asked d__law_gap d__law_seats d__law_same d_seats d_fullest_gap d__law_open d__law_own dk_seats_0 dk_fullest_gap_0 z_len z_max z_set
  have d__law_asked := D__law_asked.mk' g__law_asked
  have g__law_turn := w__law_turn (P := P) (w := w) (base := base) (cm := cm) D__law_turn d__law_pick d__law_take d__law_word d__law_asked d_seats d__law_own d__law_same z_len z_max z_range z_tuple
  have d__law_turn := D__law_turn.mk' g__law_turn
  have g_stabbed_letters := w_stabbed_letters (P := P) (w := w) (base := base) (cm := cm) D_stabbed_letters d_ends_by z_sorted TB_stabbed_letters hcd_stabbed_letters hmT_stabbed_letters huT_stabbed_letters
  have d_stabbed_letters := D_stabbed_letters.mk' g_stabbed_letters
  have g_stabs_by := w_stabs_by (P := P) (w := w) (base := base) (cm := cm) D_stabs_by d_ends_by d_stabbed_letters z_tuple
  have d_stabs_by := D_stabs_by.mk' g_stabs_by
  have g_stabs := w_stabs (P := P) (w := w) (base := base) (cm := cm) D_stabs d_check_word d_stabs_by
  have d_stabs := D_stabs.mk' g_stabs
  have dk_stabs_0 := D_stabs.mkK g_stabs ["word"] [0] (fun _ _ _ _ _ _ ws hl => match ws, hl with | [_], _ => rfl)
  have g__law_stabbed := w__law_stabbed (P := P) (w := w) (base := base) (cm := cm) D__law_stabbed d__law_spans z_sorted z_tuple
  have d__law_stabbed := D__law_stabbed.mk' g__law_stabbed
  have g_side_by_side_by := w_side_by_side_by (P := P) (w := w) (base := base) (cm := cm) D_side_by_side_by d_stabbed_letters z_sorted
  have d_side_by_side_by := D_side_by_side_by.mk' g_side_by_side_by
  have g_side_by_side := w_side_by_side (P := P) (w := w) (base := base) (cm := cm) D_side_by_side d_check_word d_side_by_side_by
  have d_side_by_side := D_side_by_side.mk' g_side_by_side
  have dk_side_by_side_0 := D_side_by_side.mkK g_side_by_side ["word"] [0] (fun _ _ _ _ _ _ ws hl => match ws, hl with | [_], _ => rfl)
  have g__law_are_beside := w__law_are_beside (P := P) (w := w) (base := base) (cm := cm) D__law_are_beside 
  have d__law_are_beside := D__law_are_beside.mk' g__law_are_beside
  have g__law_stabs_asked := w__law_stabs_asked (P := P) (w := w) (base := base) (cm := cm) D__law_stabs_asked d__law_spans d__law_stabbed d__law_same d_stabs d_side_by_side d__law_are_beside dk_stabs_0 dk_side_by_side_0 z_all z_len
  have d__law_stabs_asked := D__law_stabs_asked.mk' g__law_stabs_asked
  have g__law_stabs := w__law_stabs (P := P) (w := w) (base := base) (cm := cm) D__law_stabs d__law_word d__law_pick d__law_take d__law_stabs_asked d_stabs d__law_same z_len z_range z_tuple
  have d__law_stabs := D__law_stabs.mk' g__law_stabs
  have g_law := w_law (P := P) (w := w) (base := base) (cm := cm) D_law d__law_well d__law_turn d__law_stabs z_len z_max z_min z_range
  exact g_law
end
end W_bandhems_k59_seats_gaps_and_stabs

/-! K59L: words, ends of letters, spans; who is within whom; the order by first ends. -/
namespace W_bandhems_k59_seats_gaps_and_stabs
open G
abbrev I' (i : Int) : Sl := .v (.p (.int i))
abbrev S' (s : List Nat) : Sl := .v (.p (.str s))
def LET : List Nat := [97, 98, 99, 100, 101, 102, 103, 104, 105, 106, 107, 108]
/-- a word -/
structure Wd (w : List Nat) : Prop where
  a : ∀ c ∈ w, c ∈ LET
  b : ∀ c ∈ LET, w.count c = 0 ∨ w.count c = 2
  e : w.length ≤ 24
theorem let_lt {c : Nat} (h : c ∈ LET) : c < 1114112 := by
  simp only [LET, List.mem_cons, List.not_mem_nil, or_false] at h
  omega
theorem Wd.ow {w : List Nat} (h : Wd w) : okS w := fun c m => let_lt (h.a c m)
theorem text_of_ok (s t : List Nat) (h : s.length ≤ 1000) : ap m_is_text_of [.str s, .str t] = some (.p (.bl (s.all fun c => decide (c ∈ t)))) := by
  have e := lcF_mp (own := [2]) (h := hName 2) (ifs := bYes) (elt := e_is_text_of_1) (ρ := [S' s, S' t, .no]) (fun c => .str [c]) (fun c => .bl (decide (c ∈ t))) (xs := s) (by
    intro c hc
    exact ⟨_, _, _, _, by simp; rfl, rfl, by simp [e_is_text_of_1]; exact ⟨rfl, rfl⟩, by simp, by simp [wipeS]⟩)
  simp only [ap, m_is_text_of, runD_ap]
  have e2 : s.length ≤ big := by rw [big_is]; omega
  simp [b_is_text_of, seqD, e2, wipeS, e, cAll_map]
theorem in_two (k a b : Int) : cInA (.int k) (.tup [.int a, .int b]) = some (.bl (decide (a = k) || decide (b = k))) := by
  simp [cInA, cIn2, cInL, lstD, D.fl, flL, anyE, D.eq]
theorem worded_ok {w : List Nat} (h : Wd w) : ap m_is_worded [.str w] = some (.p (.bl true)) := by
  have e := lcF_mp (own := [1]) (h := hName 1) (ifs := bYes) (elt := e_is_worded_1) (ρ := [S' w, .no]) (fun c => .str [c]) (fun c => .bl true) (xs := LET) (by
    intro c hc
    refine ⟨[S' w, S' [c]], [S' w, S' [c]], .val (.bl true), [S' w, S' [c]], by simp, rfl, ?_, by simp, by simp [wipeS]⟩
    rcases h.b c hc with g | g <;> simp [e_is_worded_1, cCount, in_two, big_is, g])
  simp only [ap, m_is_worded, runD_ap]
  have e2 := text_of_ok w LET (by have := h.e; omega)
  have e3 : (w.all fun c => decide (c ∈ LET)) = true := List.all_eq_true.mpr fun c m => decide_eq_true (h.a c m)
  have hL : c_LETTERS = .str LET := rfl
  have hl : LET.length ≤ big := by rw [big_is]; decide
  rw [e3] at e2
  have e4 := cAll_map (fun _ : Nat => true) LET
  have e5 : (LET.all fun _ => true) = true := rfl
  rw [e5] at e4
  simp [b_is_worded, seqD, hL, hl, e2, wipeS, e, e4]
theorem check_ok {w : List Nat} (h : Wd w) : ap m_check_word [.str w] = some (.p .non) := by
  rw [ap, m_check_word, runD_ap]
  simp [b_check_word, worded_ok h]
def ch (w : List Nat) (i : Nat) : Nat := w.getD i 0
theorem get_ch {w : List Nat} {i : Nat} (h : i < w.length) : w[i]? = some (ch w i) := by
  simp [ch, List.getD, h]
theorem ch_mem {w : List Nat} {i : Nat} (h : i < w.length) : ch w i ∈ w := List.mem_of_getElem? (get_ch h)
theorem ix_str {w : List Nat} {i : Nat} (h : i < w.length) (hw : w.length ≤ 1000) : cIx (.str w) (.int i) = some (.str [ch w i]) := by
  have h2 : w.length ≤ big := by rw [big_is]; omega
  simp [h2, get_ch h]
theorem ne_one {a b : Nat} (ha : a < 1114112) (hb : b < 1114112) : cNe (.str [a]) (.str [b]) = some (.bl (!decide (a = b))) := by
  rw [cNe_str (okS_one ha) (okS_one hb)]
  simp
theorem eq_one {a b : Nat} (ha : a < 1114112) (hb : b < 1114112) : cEq (.str [a]) (.str [b]) = some (.bl (decide (a = b))) := by
  rw [cEq_str (okS_one ha) (okS_one hb)]
  simp
/-! places of a letter -/
def fp (w : List Nat) (c : Nat) : Nat := (posn c w 0).headD 0
def lq (w : List Nat) (c : Nat) : Nat := (posn c w 0).getLastD 0
def endT (w : List Nat) (c : Nat) : D := .tup [.int (fp w c), .int (lq w c)]
theorem two_places {w : List Nat} (h : Wd w) {c : Nat} (m : c ∈ w) : posn c w 0 = [fp w c, lq w c] := by
  have hc : w.count c = 2 := by
    have := List.count_pos_iff.mpr m
    rcases h.b c (h.a c m) with g | g
    · omega
    · exact g
  have hl := posn_len c w 0
  rw [hc] at hl
  unfold fp lq
  match posn c w 0, hl with
  | [a, b], _ => rfl
theorem place_iff {w : List Nat} (h : Wd w) {c : Nat} (m : c ∈ w) (i : Nat) : w[i]? = some c ↔ i = fp w c ∨ i = lq w c := by
  have := posn_ge c w 0 i
  rw [two_places h m] at this
  simpa [eq_comm] using this.symm
theorem fp_lt {w : List Nat} (h : Wd w) {c : Nat} (m : c ∈ w) : fp w c < lq w c := by
  have := posn_lt c w 0
  rw [two_places h m] at this
  simpa using this
theorem letters_ok {w : List Nat} (hw : w.length < 63) : ap m_letters_by [.str w] = some (.p (.str (ssort w))) := by
  have h1 := ssort_len w
  have h2 := cJoin_sgs (ssort w) (by rw [big_is]; omega)
  rw [sgs] at h2
  rw [ap, m_letters_by, runD_ap]
  simp [b_letters_by, hw, h2]
def endK (w : List Nat) : List (DK × D) := (ssort w).map fun c => (.s [c], endT w c)
theorem ends_ok {w : List Nat} (h : Wd w) : ap m_ends_by [.str w] = some (.di (endK w)) := by
  have hw := h.e
  have e := dcF_new (own := [1]) (h := hName 1) (ifs := bYes) (ke := eVar 1) (ve := e_ends_by_1) (ρ := [S' w, .no]) (fun c => .str [c]) (fun c => .s [c]) (endT w) (xs := ssort w) (acc := []) ((ssort_lt w).imp fun {a b} lt z => by
      injection z with z
      injection z with z
      omega) (fun p m => nomatch m) (by
    intro c hc
    have m := (mem_ssort c w).mp hc
    have e1 := two_places h m
    refine ⟨[S' w, S' [c]], [S' w, S' [c]], .val (.str [c]), [S' w, S' [c]], .val (endT w c), [S' w, S' [c]], .str [c], by simp, rfl, by simp, ?_, by simp, rfl, by simp, by simp [wipeS]⟩
    simp [e_ends_by_1, cIndex, cRindex, e1, big_is, endT])
  have e2 := letters_ok (w := w) (by omega)
  have h1 := ssort_len w
  have h2 : (ssort w).length ≤ big := by rw [big_is]; omega
  rw [List.nil_append] at e
  rw [ap, m_ends_by, runD_ap]
  simp [b_ends_by, e2, seqD, h2, wipeS, e, endK]
/-! spans -/
abbrev Sp := Nat × Nat
def sp (w : List Nat) (c : Nat) : Sp := (fp w c, lq w c)
def lr (w : List Nat) (s : Sp) : Nat := ch w s.1
def SS (w : List Nat) : List Sp := (ssort w).map (sp w)
theorem fp_len {w : List Nat} (h : Wd w) {c : Nat} (m : c ∈ w) : fp w c < w.length := (List.getElem?_eq_some_iff.mp ((place_iff h m _).mpr (.inl rfl))).1
theorem lq_len {w : List Nat} (h : Wd w) {c : Nat} (m : c ∈ w) : lq w c < w.length := (List.getElem?_eq_some_iff.mp ((place_iff h m _).mpr (.inr rfl))).1
theorem ch_fp {w : List Nat} (h : Wd w) {c : Nat} (m : c ∈ w) : ch w (fp w c) = c := by
  have e := (place_iff h m _).mpr (.inl rfl)
  rw [get_ch (fp_len h m)] at e
  exact Option.some.inj e
theorem ch_lq {w : List Nat} (h : Wd w) {c : Nat} (m : c ∈ w) : ch w (lq w c) = c := by
  have e := (place_iff h m _).mpr (.inr rfl)
  rw [get_ch (lq_len h m)] at e
  exact Option.some.inj e
theorem lr_sp {w : List Nat} (h : Wd w) {c : Nat} (m : c ∈ w) : lr w (sp w c) = c := ch_fp h m
theorem mem_SS {w : List Nat} {s : Sp} (m : s ∈ SS w) : ∃ c ∈ w, s = sp w c := by
  obtain ⟨c, hc, rfl⟩ := List.mem_map.mp m
  exact ⟨c, (mem_ssort c w).mp hc, rfl⟩
theorem sp_SS {w : List Nat} {c : Nat} (m : c ∈ w) : sp w c ∈ SS w := List.mem_map.mpr ⟨c, (mem_ssort c w).mpr m, rfl⟩
theorem sp_lr {w : List Nat} (h : Wd w) {s : Sp} (m : s ∈ SS w) : sp w (lr w s) = s := by
  obtain ⟨c, hc, rfl⟩ := mem_SS m
  rw [lr_sp h hc]
theorem lr_mem {w : List Nat} (h : Wd w) {s : Sp} (m : s ∈ SS w) : lr w s ∈ w := by
  obtain ⟨c, hc, rfl⟩ := mem_SS m
  rw [lr_sp h hc]; exact hc
theorem lr_inj {w : List Nat} (h : Wd w) {s t : Sp} (ms : s ∈ SS w) (mt : t ∈ SS w) (e : lr w s = lr w t) : s = t := by
  rw [← sp_lr h ms, ← sp_lr h mt, e]
theorem SS_lr {w : List Nat} (h : Wd w) : (SS w).map (lr w) = ssort w := by
  unfold SS
  rw [List.map_map]
  exact (List.map_congr_left fun c m => lr_sp h ((mem_ssort c w).mp m)).trans (List.map_id _)
theorem SS_nd {w : List Nat} (h : Wd w) : (SS w).Nodup := by
  unfold SS
  refine List.pairwise_map.mpr ((ssort_lt w).imp_of_mem fun {a b} ma mb lt e => ?_)
  have := congrArg (lr w) e
  rw [lr_sp h ((mem_ssort a w).mp ma), lr_sp h ((mem_ssort b w).mp mb)] at this
  omega
theorem SS_lt {w : List Nat} (h : Wd w) {s : Sp} (m : s ∈ SS w) : s.1 < s.2 ∧ s.2 < w.length := by
  obtain ⟨c, hc, rfl⟩ := mem_SS m
  exact ⟨fp_lt h hc, lq_len h hc⟩
/-- unlike letters have unlike ends -/
theorem SS_ne {w : List Nat} (h : Wd w) {s t : Sp} (ms : s ∈ SS w) (mt : t ∈ SS w) (n : s ≠ t) : s.1 ≠ t.1 ∧ s.1 ≠ t.2 ∧ s.2 ≠ t.1 ∧ s.2 ≠ t.2 := by
  obtain ⟨c, hc, rfl⟩ := mem_SS ms
  obtain ⟨d, hd, rfl⟩ := mem_SS mt
  have k : c ≠ d := fun e => n (by rw [e])
  have a1 := ch_fp h hc
  have a2 := ch_lq h hc
  have b1 := ch_fp h hd
  have b2 := ch_lq h hd
  refine ⟨fun e => k ?_, fun e => k ?_, fun e => k ?_, fun e => k ?_⟩
  · rw [← a1, ← b1]; exact congrArg _ e
  · rw [← a1, ← b2]; exact congrArg _ e
  · rw [← a2, ← b1]; exact congrArg _ e
  · rw [← a2, ← b2]; exact congrArg _ e
theorem SS_len {w : List Nat} (h : Wd w) : (SS w).length ≤ 24 := by
  unfold SS
  rw [List.length_map]
  have := ssort_len w
  have := h.e
  omega
/-! the ends looked up -/
theorem end_at {w : List Nat} {c : Nat} (m : c ∈ w) : cIx (.dic (endK w)) (.str [c]) = some (endT w c) := by
  show lookK (endK w) (.s [c]) = _
  exact lookK_mp (fun c => DK.s [c]) (endT w) ((mem_ssort _ w).mpr m) fun y _ z => by
    injection z with z
    injection z
def wi (s t : Sp) : Bool := decide (t.1 < s.1) && decide (s.2 < t.2)
def op (s : Sp) (k : Nat) : Bool := decide (s.1 ≤ k) && decide (k < s.2)
theorem open_ok {w : List Nat} {c k : Nat} (mc : c ∈ w) : ap m_is_open [.dic (endK w), .str [c], .int k] = some (.p (.bl (op (sp w c) k))) := by
  have e1 := end_at mc
  generalize endK w = kvs at e1
  rw [ap, m_is_open, runD_ap]
  by_cases h : fp w c ≤ k
  · simp [b_is_open, e1, endT, op, sp, h]
    exact decide_eq_decide.mpr Iff.rfl
  · simp [b_is_open, e1, endT, op, sp, h]
/-! orders -/
def ordF (S : List Sp) : List Sp := bykey (S.map fun s => (s, (s.1 : Int)))
def ordL (S : List Sp) : List Sp := bykey (S.map fun s => (s, (s.2 : Int)))
theorem bykey_perm {α : Type} (k : α → Int) (S : List α) : (bykey (S.map fun s => (s, k s))).Perm S := by
  unfold bykey
  have h := (List.mergeSort_perm (S.map fun s => (s, k s)) fun a b => decide (a.2 ≤ b.2)).map (·.1)
  rw [List.map_map] at h
  exact h.trans (by rw [show ((fun x : α × Int => x.1) ∘ fun s => (s, k s)) = id from rfl, List.map_id])
theorem bykey_asc {α : Type} (k : α → Int) (S : List α) : (bykey (S.map fun s => (s, k s))).Pairwise fun a b => k a ≤ k b := by
  unfold bykey
  have h := List.pairwise_mergeSort (le := fun a b : α × Int => decide (a.2 ≤ b.2)) (fun a b c h1 h2 => by simp at *; omega) (fun a b => by simp; omega) (S.map fun s => (s, k s))
  refine List.pairwise_map.mpr (h.imp_of_mem fun {a b} ma mb hab => ?_)
  have hp : ∀ x, x ∈ (S.map fun s => (s, k s)).mergeSort (fun a b => decide (a.2 ≤ b.2)) → x.2 = k x.1 := fun x mx => by
    have := List.mem_mergeSort.mp mx
    obtain ⟨s, _, rfl⟩ := List.mem_map.mp this
    rfl
  have := of_decide_eq_true hab
  rw [hp a ma, hp b mb] at this
  exact this
theorem ordF_perm (S : List Sp) : (ordF S).Perm S := bykey_perm (fun s : Sp => (s.1 : Int)) S
theorem ordL_perm (S : List Sp) : (ordL S).Perm S := bykey_perm (fun s : Sp => (s.2 : Int)) S
theorem keyN_map {m : Em} {cs : List D} {α : Type} (u : α → D) (k : α → Int) : ∀ {S : List α}, (∀ s ∈ S, ∃ ρ, m (slP (u s :: cs)) = some (.val (.int (k s)), ρ)) → keyN m cs (S.map u) = some (S.map k)
  | [], _ => rfl
  | s :: S, h => by
    obtain ⟨ρ, e⟩ := h s (by simp)
    have ih := keyN_map (m := m) (cs := cs) u k (S := S) fun s hs => h s (by simp [hs])
    simp only [List.map_cons, keyN, e, ih, Option.bind_some, Option.map_some]
theorem keys_endK {w : List Nat} (h : Wd w) : keysD (endK w) = (SS w).map fun s => .str [lr w s] := by
  unfold keysD endK SS
  rw [List.map_map, List.map_map]
  refine List.map_congr_left fun c m => ?_
  show DK.d (.s [c]) = .str [lr w (sp w c)]
  rw [lr_sp h ((mem_ssort c w).mp m)]
  rfl
theorem by_first_ok {w : List Nat} (h : Wd w) : ap m_by_first_ends [.dic (endK w)] = some (.ls (sgs ((ordF (SS w)).map (lr w)))) := by
  have hk := keys_endK h
  have hb : (endK w).length ≤ big := by
    have := ssort_len w
    have := h.e
    rw [endK, List.length_map, big_is]
    omega
  have e := keyN_map (m := k_by_first_ends_1) (cs := [.dic (endK w)]) (fun s : Sp => D.str [lr w s]) (fun s => (s.1 : Int)) (S := SS w) (by
    intro s hs
    obtain ⟨c, hc, rfl⟩ := mem_SS hs
    have e1 := end_at hc
    rw [lr_sp h hc]
    generalize endK w = kvs at e1
    exact ⟨_, by simp [k_by_first_ends_1, e1, endT, sp]; rfl⟩)
  have e2 : bykey (((SS w).map fun s => D.str [lr w s]).zip ((SS w).map fun s => (s.1 : Int))) = sgs ((ordF (SS w)).map (lr w)) := by
    unfold ordF sgs
    rw [List.map_map, ← bykey_map, List.map_map, List.zip_map']
    rfl
  generalize endK w = kvs at hk hb e
  rw [ap, m_by_first_ends, runD_ap]
  simp [b_by_first_ends, hb, capS, hk, e, e2]
end W_bandhems_k59_seats_gaps_and_stabs

/-! K59M: levels, seats. -/
namespace W_bandhems_k59_seats_gaps_and_stabs
open G
/-! what is found, span by span -/
def runV {α : Type} (V : List (Sp × α) → Sp → α) (O : List Sp) : List (Sp × α) := O.foldl (fun acc s => acc ++ [(s, V acc s)]) []
theorem runV_snoc {α : Type} (V : List (Sp × α) → Sp → α) (O : List Sp) (s : Sp) : runV V (O ++ [s]) = runV V O ++ [(s, V (runV V O) s)] := by
  unfold runV
  rw [List.foldl_append]
  rfl
theorem runV_keys {α : Type} (V : List (Sp × α) → Sp → α) (O : List Sp) : (runV V O).map (·.1) = O := by
  have key : ∀ (O : List Sp) (acc : List (Sp × α)), (O.foldl (fun acc s => acc ++ [(s, V acc s)]) acc).map (·.1) = acc.map (·.1) ++ O := by
    intro O
    induction O with
    | nil => intro acc; simp
    | cons s O ih => intro acc; rw [List.foldl_cons, ih]; simp
  exact key O []
theorem take_snoc {α : Type} {l : List α} {i : Nat} (h : i < l.length) : l.take (i + 1) = l.take i ++ [l[i]] := by
  rw [List.take_add_one, List.getElem?_eq_getElem h]; rfl
theorem nd_inj {α β : Type} {acc : List (α × β)} (h : (acc.map (·.1)).Nodup) {x y : α × β} (mx : x ∈ acc) (my : y ∈ acc) (e : x.1 = y.1) : x = y := by
  induction acc with
  | nil => cases mx
  | cons z acc ih =>
    rw [List.map_cons, List.nodup_cons] at h
    rcases List.mem_cons.mp mx with ex | mx <;> rcases List.mem_cons.mp my with ey | my
    · rw [ex, ey]
    · exact absurd (List.mem_map.mpr ⟨y, my, by rw [← e, ex]⟩) h.1
    · exact absurd (List.mem_map.mpr ⟨x, mx, by rw [e, ey]⟩) h.1
    · exact ih h.2 mx my
/-- the value found for a span -/
def gv {α : Type} [Inhabited α] (acc : List (Sp × α)) (s : Sp) : α := ((acc.find? fun p => decide (p.1 = s)).map (·.2)).getD default
theorem gv_mem {α : Type} [Inhabited α] {acc : List (Sp × α)} (h : (acc.map (·.1)).Nodup) {p : Sp × α} (m : p ∈ acc) : gv acc p.1 = p.2 := by
  unfold gv
  cases q : acc.find? fun x => decide (x.1 = p.1) with
  | none =>
    have := List.find?_eq_none.mp q p m
    simp at this
  | some x =>
    have h1 := List.mem_of_find?_eq_some q
    have h2 := List.find?_some q
    have := nd_inj h h1 m (of_decide_eq_true h2)
    rw [this]; rfl
def acD {α : Type} (w : List Nat) (f : α → D) (acc : List (Sp × α)) : List (DK × D) := acc.map fun p => (.s [lr w p.1], f p.2)
theorem acD_look {α : Type} {w : List Nat} (h : Wd w) (f : α → D) {acc : List (Sp × α)} (hn : (acc.map (·.1)).Nodup) (hs : ∀ p ∈ acc, p.1 ∈ SS w) {p : Sp × α} (m : p ∈ acc) : cIx (.dic (acD w f acc)) (.str [lr w p.1]) = some (f p.2) := by
  show lookK (acD w f acc) (.s [lr w p.1]) = _
  exact lookK_mp (fun p : Sp × α => DK.s [lr w p.1]) (fun p => f p.2) m fun y my e => by
    injection e with e
    injection e with e
    exact nd_inj hn my m (lr_inj h (hs y my) (hs p m) e)
theorem acD_put {α : Type} {w : List Nat} (h : Wd w) (f : α → D) {acc : List (Sp × α)} (hs : ∀ p ∈ acc, p.1 ∈ SS w) {s : Sp} (ms : s ∈ SS w) (ns : s ∉ acc.map (·.1)) (v : α) : putD (acD w f acc) (.s [lr w s]) (f v) = acD w f (acc ++ [(s, v)]) := by
  rw [putD_new]
  · simp [acD]
  · intro p m e
    obtain ⟨q, mq, rfl⟩ := List.mem_map.mp m
    injection e with e
    injection e with e
    exact ns (List.mem_map.mpr ⟨q, mq, lr_inj h (hs q mq) ms e⟩)
theorem acD_keys {α : Type} (w : List Nat) (f : α → D) (acc : List (Sp × α)) : keysD (acD w f acc) = acc.map fun p => .str [lr w p.1] := by
  unfold keysD acD
  rw [List.map_map]
  rfl
theorem acD_len {α : Type} (w : List Nat) (f : α → D) (acc : List (Sp × α)) : (acD w f acc).length = acc.length := by simp [acD]
theorem nd_len {α : Type} [DecidableEq α] : ∀ {l m : List α}, l.Nodup → (∀ x ∈ l, x ∈ m) → l.length ≤ m.length
  | [], m, _, _ => Nat.zero_le _
  | x :: l, m, h, s => by
    rw [List.nodup_cons] at h
    have ih := nd_len (l := l) (m := m.erase x) h.2 fun y my => (List.mem_erase_of_ne fun e => h.1 (by rw [← e]; exact my)).mpr (s y (by simp [my]))
    have mx := s x (by simp)
    rw [List.length_erase_of_mem mx] at ih
    have := List.length_pos_of_mem mx
    rw [List.length_cons]
    omega
/-- a row of found things -/
structure Fd {α : Type} (w : List Nat) (acc : List (Sp × α)) : Prop where
  n : (acc.map (·.1)).Nodup
  s : ∀ p ∈ acc, p.1 ∈ SS w
theorem Fd.len {α : Type} {w : List Nat} (h : Wd w) {acc : List (Sp × α)} (f : Fd w acc) : acc.length ≤ 24 := by
  have h1 := nd_len f.n (m := SS w) fun x m => by
    obtain ⟨p, mp, rfl⟩ := List.mem_map.mp m
    exact f.s p mp
  rw [List.length_map] at h1
  have := SS_len h
  omega
theorem Fd.take {α : Type} {w : List Nat} {V : List (Sp × α) → Sp → α} {O : List Sp} (hn : O.Nodup) (hs : ∀ s ∈ O, s ∈ SS w) (i : Nat) : Fd w (runV V (O.take i)) := by
  refine ⟨?_, fun p m => ?_⟩
  · rw [runV_keys]
    exact hn.sublist (List.take_sublist i O)
  · have : p.1 ∈ (runV V (O.take i)).map (·.1) := List.mem_map.mpr ⟨p, m, rfl⟩
    rw [runV_keys] at this
    exact hs _ (List.mem_of_mem_take this)
theorem Fd.all {α : Type} {w : List Nat} {V : List (Sp × α) → Sp → α} {O : List Sp} (hn : O.Nodup) (hs : ∀ s ∈ O, s ∈ SS w) : Fd w (runV V O) := by
  have := Fd.take (V := V) hn hs O.length
  rwa [List.take_length] at this
theorem as_told_ok {α : Type} [Inhabited α] {w : List Nat} (h : Wd w) (f : α → D) {acc : List (Sp × α)} (fd : Fd w acc) (ha : ∀ s ∈ SS w, s ∈ acc.map (·.1)) : ap m_as_told [.dic (endK w), .dic (acD w f acc)] = some (.p (.tup ((SS w).map fun s => f (gv acc s)))) := by
  have hk := keys_endK h
  have hl := SS_len h
  have hlk : (SS w).length ≤ big := by rw [big_is]; omega
  have look : ∀ s ∈ SS w, cIx (.dic (acD w f acc)) (.str [lr w s]) = some (f (gv acc s)) := fun s hs => by
    obtain ⟨p, mp, e⟩ := List.mem_map.mp (ha s hs)
    have e1 := acD_look h f fd.n fd.s mp
    have e3 := gv_mem fd.n mp
    rw [e] at e1 e3
    rw [e1, e3]
  generalize acD w f acc = bs at look
  generalize hz : endK w = es at hk
  have e := lcF_mp (own := [2]) (h := hName 2) (ifs := bYes) (elt := e_as_told_1) (ρ := [.v (.p (.dic es)), .v (.p (.dic bs)), .no]) (fun s : Sp => .str [lr w s]) (fun s => f (gv acc s)) (xs := SS w) (by
    intro s hs
    have e1 := look s hs
    exact ⟨[.v (.p (.dic es)), .v (.p (.dic bs)), S' [lr w s]], [.v (.p (.dic es)), .v (.p (.dic bs)), S' [lr w s]], _, _, by simp, rfl, by simp [e_as_told_1, e1]; exact ⟨rfl, rfl⟩, by simp, by simp [wipeS]⟩)
  rw [ap, m_as_told, runD_ap]
  simp [b_as_told, hk, hlk, wipeS, e, back, cTuple]
/-! lists of whole numbers -/
theorem ints_flat : ∀ (ns : List Int), D.flats (ns.map D.int) = true ∧ D.deps (ns.map D.int) = 0
  | [] => ⟨rfl, rfl⟩
  | n :: ns => by
    have ih := ints_flat ns
    constructor
    · show (D.flat (.int n) && D.flats (ns.map D.int)) = true
      rw [ih.1]; rfl
    · show max (D.dep (.int n)) (D.deps (ns.map D.int)) = 0
      rw [ih.2]; rfl
theorem cNe_ints (ns : List Int) : cNe (.lst (ns.map D.int)) (.lst []) = some (.bl (decide (ns ≠ []))) := by
  have := ints_flat ns
  have e0 : D.ok (.lst (ns.map D.int)) = true := by
    simp only [D.ok, D.flat, D.dep, this.1, this.2, Bool.true_and]
    exact decide_eq_true (by decide)
  unfold cNe
  rw [e0]
  have e : D.ok (.lst []) = true := by decide
  rw [e]
  cases ns with
  | nil => rfl
  | cons c r => rfl
def maxI (a : Int) (ns : List Int) : Int := ns.foldl (fun a y => if a < y then y else a) a
theorem maxR_int : ∀ (a : Int) (ns : List Int), maxR (.int a) (ns.map D.int) = .int (maxI a ns)
  | _, [] => rfl
  | a, n :: ns => by
    have ih := maxR_int (if a < n then n else a) ns
    unfold maxR maxI at ih ⊢
    rw [List.map_cons, List.foldl_cons, List.foldl_cons]
    have : (if D.lt (.int a) (.int n) = true then D.int n else D.int a) = D.int (if a < n then n else a) := by
      show (if decide (a < n) = true then _ else _) = _
      by_cases q : a < n <;> simp [q]
    rw [this]
    exact ih
theorem rowK_int (a : Int) (ns : List Int) : rowK (.int a) (ns.map D.int) = true := by
  have h := (ints_flat (a :: ns)).1
  unfold rowK
  rw [Bool.and_eq_true, Bool.and_eq_true, Bool.and_eq_true]
  refine ⟨⟨⟨rfl, ?_⟩, ?_⟩, h⟩
  · rw [List.all_map, List.all_eq_true]
    exact fun x _ => rfl
  · rw [List.all_map, List.all_eq_true]
    intro x _
    show ((ns.map D.int).all fun z => D.alk (.int x) z) = true
    rw [List.all_map, List.all_eq_true]
    exact fun y _ => rfl
theorem cBest_max (a : Int) (ns : List Int) : cBest maxR [.lst (D.int a :: ns.map D.int)] = some (.int (maxI a ns)) := by
  simp only [cBest, rowK_int, if_true, maxR_int]
theorem cBest_maxT (a : Int) (ns : List Int) : cBest maxR [.tup (D.int a :: ns.map D.int)] = some (.int (maxI a ns)) := by
  simp only [cBest, rowK_int, if_true, maxR_int]
theorem sc_ints (ns : List Int) : scT (.ls (ns.map D.int)) = true := by
  show (ns.map D.int).all scD = true
  rw [List.all_map, List.all_eq_true]
  exact fun x _ => rfl
/-! levels -/
theorem ordF_mem {S : List Sp} {s : Sp} : s ∈ ordF S ↔ s ∈ S := (ordF_perm S).mem_iff
theorem ordF_nd {S : List Sp} (h : S.Nodup) : (ordF S).Nodup := (ordF_perm S).nodup_iff.mpr h
end W_bandhems_k59_seats_gaps_and_stabs

/-! K59N: seats. -/
namespace W_bandhems_k59_seats_gaps_and_stabs
open G
theorem lf_ex (ns : List Nat) : ∃ k : Nat, k ∉ ns ∧ ∀ j, j < k → j ∈ ns := by
  have key : ∀ n k, (ns.filter fun x => decide (k ≤ x)).length ≤ n → (∀ j, j < k → j ∈ ns) → ∃ k : Nat, k ∉ ns ∧ ∀ j, j < k → j ∈ ns := by
    intro n
    induction n with
    | zero =>
      intro k h1 h2
      refine ⟨k, fun m => ?_, h2⟩
      have : k ∈ ns.filter fun x => decide (k ≤ x) := List.mem_filter.mpr ⟨m, by simp⟩
      have := List.length_pos_of_mem this
      omega
    | succ n ih =>
      intro k h1 h2
      by_cases m : k ∈ ns
      · refine ih (k + 1) ?_ fun j hj => ?_
        · have : (ns.filter fun x => decide (k + 1 ≤ x)).length < (ns.filter fun x => decide (k ≤ x)).length := cnt_lt m
          omega
        · by_cases q : j = k
          · rw [q]; exact m
          · exact h2 j (by omega)
      · exact ⟨k, m, h2⟩
  exact key _ 0 (Nat.le_refl _) fun j hj => absurd hj (Nat.not_lt_zero _)
where
  cnt_lt {ns : List Nat} {k : Nat} (m : k ∈ ns) : (ns.filter fun x => decide (k + 1 ≤ x)).length < (ns.filter fun x => decide (k ≤ x)).length := by
    have hle : ∀ l : List Nat, (l.filter fun x => decide (k + 1 ≤ x)).length ≤ (l.filter fun x => decide (k ≤ x)).length := by
      intro l
      induction l with
      | nil => exact Nat.le_refl _
      | cons a l ih =>
        rw [List.filter_cons, List.filter_cons]
        by_cases q : k + 1 ≤ a
        · rw [if_pos (by simpa using q), if_pos (by simp; omega)]
          simp only [List.length_cons]; omega
        · rw [if_neg (by simpa using q)]
          split
          · simp only [List.length_cons]; omega
          · exact ih
    induction ns with
    | nil => cases m
    | cons a l ih =>
      rw [List.filter_cons, List.filter_cons]
      rcases List.mem_cons.mp m with e | m
      · subst e
        rw [if_neg (by simp), if_pos (by simp)]
        have := hle l
        simp only [List.length_cons]; omega
      · have := ih m
        by_cases q : k + 1 ≤ a
        · rw [if_pos (by simpa using q), if_pos (by simp; omega)]
          simp only [List.length_cons]; omega
        · rw [if_neg (by simpa using q)]
          split
          · simp only [List.length_cons]; omega
          · exact this
noncomputable def lf (ns : List Nat) : Nat := Classical.choose (lf_ex ns)
theorem lf_no (ns : List Nat) : lf ns ∉ ns := (Classical.choose_spec (lf_ex ns)).1
theorem lf_all (ns : List Nat) : ∀ j, j < lf ns → j ∈ ns := (Classical.choose_spec (lf_ex ns)).2
theorem lf_uniq {ns : List Nat} {k : Nat} (h1 : k ∉ ns) (h2 : ∀ j, j < k → j ∈ ns) : lf ns = k := by
  rcases Nat.lt_trichotomy (lf ns) k with h | h | h
  · exact absurd (h2 _ h) (lf_no ns)
  · exact h
  · exact absurd (lf_all ns k h) h1
abbrev nI (n : Nat) : D := .int (n : Int)
theorem cIn_nats (k : Nat) (ns : List Nat) : cInA (.int (k : Int)) (.lst (ns.map nI)) = some (.bl (decide (k ∈ ns))) := by
  have h1 : flL (ns.map nI) = true := by
    induction ns with
    | nil => rfl
    | cons n ns ih => exact ih
  have h2 : anyE (.int (k : Int)) (ns.map nI) = decide (k ∈ ns) := by
    clear h1
    induction ns with
    | nil => simp [anyE]
    | cons n ns ih =>
      rw [List.map_cons, anyE, ih]
      simp only [D.eq, List.mem_cons]
      by_cases q : n = k
      · simp [q]
      · have q' : ¬ k = n := fun e => q e.symm
        have q2 : ¬ (n : Int) = k := by omega
        simp [q', q2]
  show (none : Option D).or (cInL _ _) = _
  simp [cInL, lstD, D.fl, h1, h2]
theorem least_ok (ns : List Nat) (hl : ns.length ≤ 1000) : ap m_least_free [.lst (ns.map nI)] = some (.p (.int (lf ns))) := by
  have hin := fun k => cIn_nats k ns
  generalize ns.map nI = ds at hin
  obtain ⟨ρ', ρ1, ⟨k, hk, rfl⟩, hc, e⟩ := whileF_mu (c := t_least_free_1) (b := l_least_free_2) (fun ρ => ∃ k : Nat, (∀ j, j < k → j ∈ ns) ∧ ρ = [.v (.p (.lst ds)), I' k]) (fun ρ => match ρ with
    | [_, .v (.p (.int k))] => (ns.filter fun x => decide (k.toNat ≤ x)).length
    | _ => 0) (by
    rintro _ ⟨k, hk, rfl⟩
    by_cases m : k ∈ ns
    · left
      refine ⟨[.v (.p (.lst ds)), I' k], by simp [t_least_free_1, hin, m], [.v (.p (.lst ds)), I' (k + 1 : Nat)], by simp [l_least_free_2], ⟨k + 1, fun j hj => ?_, rfl⟩, ?_⟩
      · by_cases q : j = k
        · rw [q]; exact m
        · exact hk j (by omega)
      · have := lf_ex.cnt_lt m
        simpa using this
    · right
      exact ⟨[.v (.p (.lst ds)), I' k], by simp [t_least_free_1, hin, m]⟩) fuel [.v (.p (.lst ds)), I' 0] ⟨0, fun j hj => absurd hj (Nat.not_lt_zero _), rfl⟩ (by
    have := List.length_filter_le (fun x => decide ((0 : Int).toNat ≤ x)) ns
    unfold fuel
    simp only
    omega)
  have hk2 : k ∉ ns := by
    intro m
    simp [t_least_free_1, hin, m] at hc
  have hr : ρ1 = [.v (.p (.lst ds)), I' k] := by
    simp [t_least_free_1, hin, hk2] at hc
    exact hc.symm
  subst hr
  rw [lf_uniq hk2 hk, ap, m_least_free, runD_ap]
  simp [b_least_free, e]
/-! seats -/
noncomputable def stV (acc : List (Sp × Nat)) (s : Sp) : Nat := lf ((acc.filter fun p => op p.1 s.1).map (·.2))
noncomputable def SEA (S : List Sp) : List (Sp × Nat) := runV stV (ordF S)
theorem sc_nats (ns : List Nat) : scT (.ls (ns.map nI)) = true := by
  show (ns.map nI).all scD = true
  rw [List.all_map, List.all_eq_true]
  exact fun x _ => rfl
theorem acD_items {α : Type} (w : List Nat) (f : α → D) (acc : List (Sp × α)) : itemsD (acD w f acc) = acc.map fun p => .tup [.str [lr w p.1], f p.2] := by
  unfold itemsD acD
  rw [List.map_map]
  rfl
theorem seats_by_ok {w : List Nat} (h : Wd w) : ap m_seats_by [.str w] = some (.p (.tup ((SS w).map fun s => nI (gv (SEA (SS w)) s)))) := by
  have hO := ordF_nd (SS_nd h)
  have hm : ∀ s ∈ ordF (SS w), s ∈ SS w := fun s m => ordF_mem.mp m
  have hF := Fd.all (V := stV) hO hm
  have e0 := ends_ok h
  have e1 := by_first_ok h
  have e2 := as_told_ok h nI hF fun s m => by rw [runV_keys]; exact ordF_mem.mpr m
  have hi := fun {c k : Nat} (mc : c ∈ w) => open_ok (k := k) mc
  have hend := fun {c : Nat} (mc : c ∈ w) => end_at mc
  generalize hz : endK w = es at e0 e1 e2 hi hend
  obtain ⟨ρ', e, o3, o4, rfl⟩ := forF_rel (h := hName 3) (b := l_seats_by_2) (ds := sgs ((ordF (SS w)).map (lr w))) (ρ := [S' w, .v (.p (.dic es)), .v (.di []), .no, .no, .no, .no])
      (fun i ρ => ∃ o3 o4, ρ = [S' w, .v (.p (.dic es)), .v (.di (acD w nI (runV stV ((ordF (SS w)).take i)))), lp o3, lp o4, .no, .no]) ⟨none, none, rfl⟩ (by
    rintro i hi' _ ⟨o3, o4, rfl⟩
    have hi2 : i < (ordF (SS w)).length := by simpa using hi'
    have hg : (sgs ((ordF (SS w)).map (lr w)))[i] = .str [lr w (ordF (SS w))[i]] := by simp [sgs]
    rw [hg, take_snoc hi2, runV_snoc]
    have ms := hm _ (List.getElem_mem hi2)
    have ns : (ordF (SS w))[i] ∉ (runV stV ((ordF (SS w)).take i)).map (·.1) := by
      rw [runV_keys]
      intro z
      have := take_snoc hi2
      have h2 := hO.sublist (List.take_sublist (i + 1) (ordF (SS w)))
      rw [this, List.nodup_append] at h2
      exact h2.2.2 _ z _ (by simp) rfl
    have fd := Fd.take (V := stV) hO hm i
    generalize (ordF (SS w))[i] = s at ms ns
    generalize runV stV ((ordF (SS w)).take i) = acc at ns fd
    have hl := fd.len h
    have hput := acD_put h nI fd.s ms ns (stV acc s)
    have hkey := acD_items w nI acc
    have hlb : acc.length ≤ big := by rw [big_is]; omega
    have hlen := acD_len w nI acc
    have hf : ((acc.filter fun p => op p.1 s.1).map fun p => nI p.2) = (((acc.filter fun p => op p.1 s.1).map (·.2)).map nI) := by rw [List.map_map]; rfl
    have hend1 := hend (lr_mem h ms)
    have hs1 : sp w (lr w s) = s := sp_lr h ms
    have hend2 : cIx (endT w (lr w s)) (.int 0) = some (.int s.1) := by
      have : fp w (lr w s) = s.1 := congrArg Prod.fst hs1
      simp [endT, this]
    generalize endT w (lr w s) = et at hend1 hend2
    generalize hbs : acD w nI acc = bs at hput hkey hlen
    have e5 := lcF_fp (own := [5, 6]) (h := (hTup 2 (hCons (hName 5) (hCons (hName 6) hNil)))) (ifs := (bOf (eFrz (nCall 3 m_is_open (aCons (eKeep 1) (aCons (eKeep 5) (aCons (eIx (eIx (eVar 1) (eVar 3)) (eC (.int 0))) aNil))))))) (elt := e_seats_by_1) (ρ := [S' w, .v (.p (.dic es)), .v (.p (.dic bs)), S' [lr w s], lp o4, .no, .no])
      (fun p : Sp × Nat => .tup [.str [lr w p.1], nI p.2]) (fun p => nI p.2) (fun p => op p.1 s.1) (xs := acc) (by
      intro p mp
      have w1 := hi (k := s.1) (lr_mem h (fd.s p mp))
      rw [sp_lr h (fd.s p mp)] at w1
      refine ⟨[S' w, .v (.p (.dic es)), .v (.p (.dic bs)), S' [lr w s], lp o4, S' [lr w p.1], .v (.p (nI p.2))], [S' w, .v (.p (.dic es)), .v (.p (.dic bs)), S' [lr w s], lp o4, S' [lr w p.1], .v (.p (nI p.2))], by simp, by simp [hend1, hend2, w1], fun _ => ⟨.val (nI p.2), _, by simp [e_seats_by_1]; rfl, by simp, by simp [wipeS]⟩, fun _ => by simp [wipeS]⟩)
    rw [hf] at e5
    have hlv : stV acc s = lf ((acc.filter fun p => op p.1 s.1).map (·.2)) := rfl
    have hnl : ((acc.filter fun p => op p.1 s.1).map (·.2)).length ≤ 1000 := by
      rw [List.length_map]
      have := List.length_filter_le (fun p : Sp × Nat => op p.1 s.1) acc
      omega
    generalize ((acc.filter fun p => op p.1 s.1).map (·.2)) = ns at e5 hlv hnl
    have hlf := least_ok ns hnl
    have hsc := sc_nats ns
    have hb : bs.length < big := by rw [hlen, big_is]; omega
    refine ⟨[S' w, .v (.p (.dic es)), .v (.di bs), S' [lr w s], lp o4, .no, .no], [S' w, .v (.p (.dic es)), .v (.di (acD w nI (acc ++ [(s, stV acc s)]))), S' [lr w s], lp (some (.lst (ns.map nI))), .no, .no], by simp, .inl ?_, some (.str [lr w s]), some (.lst (ns.map nI)), rfl⟩
    rw [← hput, hlv]
    generalize ns.map nI = ds at e5 hlf hsc
    cases o4 with
    | none =>
      have lpn : lp none = .no := rfl
      rw [lpn] at e5 ⊢
      simp [l_seats_by_2, hkey, hlb, wipeS, e5, hsc, back, hb, putAt_ap, isLs_ap, isDi_ap, hlf]
    | some m =>
      rw [lp_some] at e5 ⊢
      simp [l_seats_by_2, hkey, hlb, wipeS, e5, hsc, back, hb, putAt_ap, isLs_ap, isDi_ap, hlf])
  rw [sgs_len, List.length_map, List.take_length] at e
  generalize acD w nI (runV stV (ordF (SS w))) = bs at e e2
  generalize sgs ((ordF (SS w)).map (lr w)) = ds at e e1
  rw [ap, m_seats_by, runD_ap]
  simp [b_seats_by, e0, e1, e2, seqD, e]
  exact fun a b _ => rfl
end W_bandhems_k59_seats_gaps_and_stabs

/-! K59P: stabs, letters side by side, gaps; numbers, certificates. -/
namespace W_bandhems_k59_seats_gaps_and_stabs
open G
def stF (p : List Sp × Int) (s : Sp) : List Sp × Int := if p.2 < s.1 then (p.1 ++ [s], (s.2 : Int) - 1) else p
def STBp (O : List Sp) : List Sp × Int := O.foldl stF ([], -1)
def STB (S : List Sp) : List Sp := (STBp (ordL S)).1
theorem STBp_snoc (O : List Sp) (s : Sp) : STBp (O ++ [s]) = stF (STBp O) s := by
  unfold STBp
  rw [List.foldl_append]
  rfl
theorem STBp_sub (O : List Sp) : (STBp O).1.Sublist O := by
  have key : ∀ (O : List Sp) (xs : List Sp) (l : Int), (O.foldl stF (xs, l)).1.Sublist (xs ++ O) := by
    intro O
    induction O with
    | nil => intro xs l; simp
    | cons s O ih =>
      intro xs l
      rw [List.foldl_cons]
      have hs : stF (xs, l) s = if l < s.1 then (xs ++ [s], (s.2 : Int) - 1) else (xs, l) := rfl
      rw [hs]
      split
      · have := ih (xs ++ [s]) ((s.2 : Int) - 1)
        simpa using this
      · exact (ih xs l).trans (List.Sublist.append_left (List.sublist_cons_self s O) xs)
  exact key O [] (-1)
theorem STB_sub (S : List Sp) : (STB S).Sublist (ordL S) := STBp_sub (ordL S)
theorem ordL_mem {S : List Sp} {s : Sp} : s ∈ ordL S ↔ s ∈ S := (ordL_perm S).mem_iff
theorem ordL_nd {S : List Sp} (h : S.Nodup) : (ordL S).Nodup := (ordL_perm S).nodup_iff.mpr h
theorem STB_mem {S : List Sp} {s : Sp} (m : s ∈ STB S) : s ∈ S := ordL_mem.mp ((STB_sub S).subset m)
theorem STB_len {w : List Nat} (h : Wd w) : (STB (SS w)).length ≤ 24 := by
  have := (STB_sub (SS w)).length_le
  have := (ordL_perm (SS w)).length_eq
  have := SS_len h
  omega
theorem stabbed_ok {w : List Nat} (h : Wd w) : ap m_stabbed_letters [.str w] = some (.ls (sgs ((STB (SS w)).map (lr w)))) := by
  have hO := ordL_nd (SS_nd h)
  have hm : ∀ s ∈ ordL (SS w), s ∈ SS w := fun s m => ordL_mem.mp m
  have e0 := ends_ok h
  have hk := keys_endK h
  have hb : (endK w).length ≤ big := by
    have := ssort_len w
    have := h.e
    rw [endK, List.length_map, big_is]
    omega
  have e := keyN_map (m := k_stabbed_letters_1) (cs := [.dic (endK w)]) (fun s : Sp => D.str [lr w s]) (fun s => (s.2 : Int)) (S := SS w) (by
    intro s hs
    obtain ⟨c, hc, rfl⟩ := mem_SS hs
    have e1 := end_at hc
    rw [lr_sp h hc]
    generalize endK w = kvs at e1
    exact ⟨_, by simp [k_stabbed_letters_1, e1, endT, sp]; rfl⟩)
  have e2 : bykey (((SS w).map fun s => D.str [lr w s]).zip ((SS w).map fun s => (s.2 : Int))) = sgs ((ordL (SS w)).map (lr w)) := by
    unfold ordL sgs
    rw [List.map_map, ← bykey_map, List.map_map, List.zip_map']
    rfl
  have hend := fun {c : Nat} (mc : c ∈ w) => end_at mc
  generalize endK w = es at e0 hk hb e hend
  have hST : STB (SS w) = (STBp (ordL (SS w))).1 := rfl
  generalize ordL (SS w) = O at hO hm e2 hST
  obtain ⟨ρ', e5, o4, rfl⟩ := forF_rel (h := hName 4) (b := l_stabbed_letters_2) (ds := sgs (O.map (lr w))) (ρ := [S' w, .v (.p (.dic es)), .v (.ls []), I' (-1), .no])
      (fun i ρ => ∃ o4, ρ = [S' w, .v (.p (.dic es)), .v (.ls (sgs ((STBp (O.take i)).1.map (lr w)))), I' (STBp (O.take i)).2, lp o4]) ⟨none, rfl⟩ (by
    rintro i hi' _ ⟨o4, rfl⟩
    have hi2 : i < O.length := by simpa using hi'
    have hg : (sgs (O.map (lr w)))[i] = .str [lr w O[i]] := by simp [sgs]
    have hl : (STBp (O.take i)).1.length ≤ 24 := by
      have h1 := ((STBp_sub (O.take i)).trans (List.take_sublist i O))
      have h2 := nd_len (hO.sublist h1) (m := SS w) fun x m => hm x (h1.subset m)
      have := SS_len h
      omega
    rw [hg, take_snoc hi2, STBp_snoc]
    have ms := hm _ (List.getElem_mem hi2)
    generalize O[i] = s at ms
    generalize STBp (O.take i) = fl at hl
    obtain ⟨found, last⟩ := fl
    have hend1 := hend (lr_mem h ms)
    have hs1 : sp w (lr w s) = s := sp_lr h ms
    have he1 : endT w (lr w s) = .tup [.int s.1, .int s.2] := by
      unfold endT
      rw [show fp w (lr w s) = s.1 from congrArg Prod.fst hs1, show lq w (lr w s) = s.2 from congrArg Prod.snd hs1]
    rw [he1] at hend1
    have hsb : found.length + 1 ≤ big := by rw [big_is]; simp at hl; omega
    have hap : sgs ((found ++ [s]).map (lr w)) = sgs (found.map (lr w)) ++ [.str [lr w s]] := by simp [sgs]
    by_cases q : last < s.1
    · refine ⟨[S' w, .v (.p (.dic es)), .v (.ls (sgs (found.map (lr w)))), I' last, S' [lr w s]], [S' w, .v (.p (.dic es)), .v (.ls (sgs ((found ++ [s]).map (lr w)))), I' ((s.2 : Int) - 1), S' [lr w s]], by simp, .inl ?_, some (.str [lr w s]), by simp [stF, q]⟩
      rw [hap]
      have hsl : (sgs (found.map (lr w))).length + 1 ≤ big := by simpa using hsb
      generalize sgs (found.map (lr w)) = fs at hsl
      have hfs : fs.length < big := by omega
      simp [l_stabbed_letters_2, hend1, q, isLs_ap, mApp, hsl, hfs]
    · refine ⟨[S' w, .v (.p (.dic es)), .v (.ls (sgs (found.map (lr w)))), I' last, S' [lr w s]], [S' w, .v (.p (.dic es)), .v (.ls (sgs (found.map (lr w)))), I' last, S' [lr w s]], by simp, .inl ?_, some (.str [lr w s]), by simp [stF, q]⟩
      simp [l_stabbed_letters_2, hend1, q])
  rw [sgs_len, List.length_map, List.take_length, ← hST] at e5
  generalize sgs ((STB (SS w)).map (lr w)) = rs at e5
  generalize sgs (O.map (lr w)) = ds at e2 e5
  rw [ap, m_stabbed_letters, runD_ap]
  simp [b_stabbed_letters, e0, hb, capS, hk, e, e2, seqD, e5]
theorem stabs_by_ok {w : List Nat} (h : Wd w) : ap m_stabs_by [.str w] = some (.p (.tup ((STB (SS w)).map fun s => .int ((s.2 : Int) - 1)))) := by
  have e0 := ends_ok h
  have e1 := stabbed_ok h
  have hl := STB_len h
  have hend := fun {c : Nat} (mc : c ∈ w) => end_at mc
  generalize endK w = es at e0 hend
  have e := lcF_mp (own := [2]) (h := hName 2) (ifs := bYes) (elt := e_stabs_by_1) (ρ := [S' w, .v (.di es), .no]) (fun s : Sp => .str [lr w s]) (fun s => .int ((s.2 : Int) - 1)) (xs := STB (SS w)) (by
    intro s hs
    have ms := STB_mem hs
    have hend1 := hend (lr_mem h ms)
    have hs1 : sp w (lr w s) = s := sp_lr h ms
    have he1 : endT w (lr w s) = .tup [.int s.1, .int s.2] := by
      unfold endT
      rw [show fp w (lr w s) = s.1 from congrArg Prod.fst hs1, show lq w (lr w s) = s.2 from congrArg Prod.snd hs1]
    rw [he1] at hend1
    exact ⟨[S' w, .v (.di es), S' [lr w s]], [S' w, .v (.di es), S' [lr w s]], .val (.int ((s.2 : Int) - 1)), [S' w, .v (.di es), S' [lr w s]], by simp, rfl, by simp [e_stabs_by_1, hend1], by simp, by simp [wipeS]⟩)
  have hsg : (STB (SS w)).map (fun s => D.str [lr w s]) = sgs ((STB (SS w)).map (lr w)) := by unfold sgs; rw [List.map_map]; rfl
  rw [hsg] at e
  have hb : (sgs ((STB (SS w)).map (lr w))).length ≤ big := by rw [sgs_len, List.length_map, big_is]; omega
  generalize sgs ((STB (SS w)).map (lr w)) = ds at e e1 hb
  generalize (STB (SS w)).map (fun s => D.int ((s.2 : Int) - 1)) = rs at e
  rw [ap, m_stabs_by, runD_ap]
  simp [b_stabs_by, e0, e1, seqD, hb, wipeS, e, back, cTuple]
def side (w : List Nat) : List Nat := nsort ((STB (SS w)).map (lr w))
theorem side_by_ok {w : List Nat} (h : Wd w) : ap m_side_by_side_by [.str w] = some (.p (.str (side w))) := by
  have e1 := stabbed_ok h
  have hl := STB_len h
  have h2 := cSortX_sgs ((STB (SS w)).map (lr w)) (by rw [List.length_map]; omega)
  have h3 := (nsort_perm ((STB (SS w)).map (lr w))).length_eq
  rw [List.length_map] at h3
  have h4 := cJoin_sgs (side w) (by rw [side, h3, big_is]; omega)
  have h5 : nsort ((STB (SS w)).map (lr w)) = side w := rfl
  rw [h5] at h2
  rw [ap, m_side_by_side_by, runD_ap]
  simp [b_side_by_side_by, e1, h2, h4]
/-! gaps -/
theorem open_at_ok {w : List Nat} (h : Wd w) (k : Nat) : ap m_open_at [.str w, .int k] = some (.p (.str (((SS w).filter fun s => op s k).map (lr w)))) := by
  have e0 := ends_ok h
  have hk := keys_endK h
  have hi := fun {c : Nat} (mc : c ∈ w) => open_ok (k := k) mc
  have hl := SS_len h
  generalize endK w = es at e0 hk hi
  have e := lcF_fp (own := [3]) (h := hName 3) (ifs := (bOf (eFrz (nCall 3 m_is_open (aCons (eKeep 2) (aCons (eKeep 3) (aCons (eKeep 1) aNil))))))) (elt := e_open_at_1) (ρ := [S' w, I' k, .v (.p (.dic es)), .no])
    (fun s : Sp => .str [lr w s]) (fun s => D.str [lr w s]) (fun s => op s k) (xs := SS w) (by
    intro s hs
    have w1 := hi (lr_mem h hs)
    rw [sp_lr h hs] at w1
    exact ⟨[S' w, I' k, .v (.p (.dic es)), S' [lr w s]], [S' w, I' k, .v (.p (.dic es)), S' [lr w s]], by simp, by simp [w1], fun _ => ⟨.val (.str [lr w s]), [S' w, I' k, .v (.p (.dic es)), S' [lr w s]], by simp [e_open_at_1], by simp, by simp [wipeS]⟩, fun _ => by simp [wipeS]⟩)
  have hsg : ((SS w).filter fun s => op s k).map (fun s => D.str [lr w s]) = sgs (((SS w).filter fun s => op s k).map (lr w)) := by unfold sgs; rw [List.map_map]; rfl
  rw [hsg] at e
  have hb : (SS w).length ≤ big := by rw [big_is]; omega
  have hj := cJoin_sgs (((SS w).filter fun s => op s k).map (lr w)) (by
    rw [List.length_map, big_is]
    have := List.length_filter_le (fun s => op s k) (SS w)
    omega)
  generalize (((SS w).filter fun s => op s k).map (lr w)) = ts at e hj
  rw [ap, m_open_at, runD_ap]
  simp [b_open_at, e0, hk, hb, wipeS, e, back, hj]
def prG (S : List Sp) (k : Nat) : D := .tup [.int (0 - ((S.filter fun s => op s k).length : Int)), .int (k : Int)]
def sec : D → Int
  | .tup [_, .int k] => k
  | _ => 0
def fgv (S : List Sp) (n : Nat) : Int := match (List.range (n - 1)).map (prG S) with
  | d :: ds => sec (minR d ds)
  | [] => 0
theorem full_by_ok {w : List Nat} (h : Wd w) (hn : 2 ≤ w.length) : ap m_fullest_gap_by [.str w] = some (.p (.int (fgv (SS w) w.length))) := by
  have hw := h.e
  have hS := SS_len h
  have e := lcF_mp (own := [1]) (h := hName 1) (ifs := bYes) (elt := e_fullest_gap_by_1) (ρ := [S' w, .no]) (fun k : Nat => .int k) (prG (SS w)) (xs := List.range (w.length - 1)) (by
    intro k hk
    have e1 := open_at_ok h k
    have hb : ((SS w).filter fun s => op s k).length ≤ big := by
      have := List.length_filter_le (fun s => op s k) (SS w)
      rw [big_is]; omega
    have g2 : 2 ≤ big := by decide
    exact ⟨[S' w, I' k], [S' w, I' k], .val (prG (SS w) k), [S' w, I' k], by simp, rfl, by simp [e_fullest_gap_by_1, e1, hb, g2, prG], by simp, by simp [wipeS]⟩)
  rw [← rgD_mp] at e
  have hmin : ∃ d ds, (List.range (w.length - 1)).map (prG (SS w)) = d :: ds ∧ cBest maxR [] = none ∧ cBest minR [.lst (d :: ds)] = some (minR d ds) ∧ ∃ c : Int, minR d ds = .tup [.int c, .int (fgv (SS w) w.length)] := by
    cases hr : List.range (w.length - 1) with
    | nil => 
      have := congrArg List.length hr
      simp at this
      omega
    | cons k ks =>
      refine ⟨prG (SS w) k, ks.map (prG (SS w)), by simp, rfl, ?_, ?_⟩
      · have hrow : rowK (prG (SS w) k) (ks.map (prG (SS w))) = true := by
          have hf : ∀ ks : List Nat, D.flats (ks.map (prG (SS w))) = true := by
            intro ks
            induction ks with
            | nil => rfl
            | cons a ks ih =>
              show (D.flat (prG (SS w) a) && D.flats (ks.map (prG (SS w)))) = true
              rw [ih]; rfl
          unfold rowK
          rw [Bool.and_eq_true, Bool.and_eq_true, Bool.and_eq_true]
          refine ⟨⟨⟨rfl, ?_⟩, ?_⟩, hf (k :: ks)⟩
          · rw [List.all_map, List.all_eq_true]
            exact fun x _ => rfl
          · rw [List.all_map, List.all_eq_true]
            intro x _
            show ((ks.map (prG (SS w))).all fun z => D.alk (prG (SS w) x) z) = true
            rw [List.all_map, List.all_eq_true]
            exact fun y _ => rfl
        simp only [cBest, hrow, if_true]
      · have hfg : fgv (SS w) w.length = sec (minR (prG (SS w) k) (ks.map (prG (SS w)))) := by
          unfold fgv
          rw [hr]
          rfl
        rw [hfg]
        have hm := minR_mem (prG (SS w) k) (ks.map (prG (SS w)))
        generalize minR (prG (SS w) k) (ks.map (prG (SS w))) = m at hm
        have : m ∈ (k :: ks).map (prG (SS w)) := by simpa using hm
        obtain ⟨a, _, rfl⟩ := List.mem_map.mp this
        exact ⟨_, rfl⟩
  obtain ⟨d, ds, h1, _, h2, c, h3⟩ := hmin
  rw [h1] at e
  have hix : cIx (minR d ds) (.int 1) = some (.int (fgv (SS w) w.length)) := by rw [h3]; simp
  have hb1 : w.length ≤ big := by rw [big_is]; omega
  have hrg : rgOk ((w.length : Int) - 1) = true := rgOk_of (by omega)
  have hb2 : (rgD 0 (w.length - 1)).length ≤ big := by rw [rgD_length, big_is]; omega
  have hnn : ((w.length : Int) - 1).toNat = w.length - 1 := by omega
  have heq := cEq_str h.ow (t := []) (fun c m => nomatch m)
  have hne : decide (w = []) = false := by
    refine decide_eq_false fun z => ?_
    rw [z] at hn
    simp at hn
  rw [hne] at heq
  rw [ap, m_fullest_gap_by, runD_ap]
  simp [-cIx_tup, b_fullest_gap_by, heq, hb1, hrg, hb2, hnn, wipeS, e, back, h2, hix]
end W_bandhems_k59_seats_gaps_and_stabs

/-! K59Q: what the program's functions answer at words; certificates. -/
namespace W_bandhems_k59_seats_gaps_and_stabs
open G
noncomputable def si (w : List Nat) : List Int := (SS w).map fun s => ((gv (SEA (SS w)) s : Nat) : Int)
def sbI (w : List Nat) : List Int := (STB (SS w)).map fun s => (s.2 : Int) - 1
theorem seats_by_ok' {w : List Nat} (h : Wd w) : ap m_seats_by [.str w] = some (.p (.tup ((si w).map D.int))) := by
  have e := seats_by_ok h
  have e2 : (SS w).map (fun s => nI (gv (SEA (SS w)) s)) = (si w).map D.int := by unfold si; rw [List.map_map]; rfl
  rw [e2] at e
  exact e
theorem seats_ok {w : List Nat} (h : Wd w) : ap m_seats [.str w] = some (.p (.tup ((si w).map D.int))) := by
  have e := seats_by_ok' h
  rw [ap, m_seats, runD_ap]
  simp [b_seats, check_ok h, e]
theorem stabs_by_ok' {w : List Nat} (h : Wd w) : ap m_stabs_by [.str w] = some (.p (.tup ((sbI w).map D.int))) := by
  have e := stabs_by_ok h
  have e2 : (STB (SS w)).map (fun s => D.int ((s.2 : Int) - 1)) = (sbI w).map D.int := by unfold sbI; rw [List.map_map]; rfl
  rw [e2] at e
  exact e
theorem stabs_ok {w : List Nat} (h : Wd w) : ap m_stabs [.str w] = some (.p (.tup ((sbI w).map D.int))) := by
  have e := stabs_by_ok' h
  rw [ap, m_stabs, runD_ap]
  simp [b_stabs, check_ok h, e]
theorem side_ok {w : List Nat} (h : Wd w) : ap m_side_by_side [.str w] = some (.p (.str (side w))) := by
  rw [ap, m_side_by_side, runD_ap]
  simp [b_side_by_side, check_ok h, side_by_ok h]
theorem full_ok {w : List Nat} (h : Wd w) (hn : 2 ≤ w.length) : ap m_fullest_gap [.str w] = some (.p (.int (fgv (SS w) w.length))) := by
  rw [ap, m_fullest_gap, runD_ap]
  simp [b_fullest_gap, check_ok h, full_by_ok h hn]
theorem si_len {w : List Nat} (h : Wd w) : (si w).length ≤ 24 := by
  unfold si
  rw [List.length_map]
  exact SS_len h
theorem sbI_len {w : List Nat} (h : Wd w) : (sbI w).length ≤ 24 := by
  unfold sbI
  rw [List.length_map]
  exact STB_len h
noncomputable def N2 (w : List Nat) : Nat := (dis (si w)).length
def N3 (w : List Nat) : Nat := (STB (SS w)).length
theorem intL_ints (ns : List Int) : intL (ns.map D.int) = some ns := by
  have := intL_mp (fun i : Int => i) ns
  simpa using this
def mxs : List Int → Int
  | [] => 0
  | a :: r => maxI a r
theorem ne_nil {w : List Nat} (h : Wd w) (hn : 2 ≤ w.length) : cNe (.str w) (.str []) = some (.bl true) ∧ cEq (.str w) (.str []) = some (.bl false) := by
  have hne : decide (w = []) = false := by
    refine decide_eq_false fun z => ?_
    rw [z] at hn
    simp at hn
  have h1 := cNe_str h.ow (t := []) (fun c m => nomatch m)
  have h2 := cEq_str h.ow (t := []) (fun c m => nomatch m)
  rw [hne] at h1 h2
  exact ⟨h1, h2⟩
theorem SS_ne_nil {w : List Nat} (h : Wd w) (hn : 2 ≤ w.length) : SS w ≠ [] := by
  intro e
  have := sp_SS (ch_mem (w := w) (i := 0) (by omega))
  rw [e] at this
  cases this
end W_bandhems_k59_seats_gaps_and_stabs

/-! K59R: the numbers are greatest sizes of lots pairwise nested, overlapping, side by side. -/
namespace W_bandhems_k59_seats_gaps_and_stabs
open G
def R2 (a b : Sp) : Prop := a.1 < b.2 ∧ b.1 < a.2
def R3 (a b : Sp) : Prop := a.2 < b.1 ∨ b.2 < a.1
/-- a lot of S, any two of which are in R -/
structure Lot (R : Sp → Sp → Prop) (S xs : List Sp) : Prop where
  n : xs.Nodup
  s : ∀ x ∈ xs, x ∈ S
  r : ∀ x ∈ xs, ∀ y ∈ xs, x ≠ y → R x y
structure Max (R : Sp → Sp → Prop) (S : List Sp) (n : Nat) : Prop where
  ex : ∃ xs, Lot R S xs ∧ xs.length = n
  ub : ∀ xs, Lot R S xs → xs.length ≤ n
theorem Max.uniq {R : Sp → Sp → Prop} {S : List Sp} {n m : Nat} (h : Max R S n) (g : Max R S m) : n = m := by
  obtain ⟨xs, h1, h2⟩ := h.ex
  obtain ⟨ys, g1, g2⟩ := g.ex
  have := h.ub ys g1
  have := g.ub xs h1
  omega
theorem lot_nil {R : Sp → Sp → Prop} {S : List Sp} : Lot R S [] := ⟨List.nodup_nil, fun x m => (nomatch m), fun x m => (nomatch m)⟩
/-! what is found for a span, by what was found ahead of it -/
theorem runV_app {α : Type} (V : List (Sp × α) → Sp → α) (O1 O2 : List Sp) : ∃ r, runV V (O1 ++ O2) = runV V O1 ++ r := by
  unfold runV
  rw [List.foldl_append]
  have key : ∀ (O : List Sp) (acc : List (Sp × α)), ∃ r, O.foldl (fun acc s => acc ++ [(s, V acc s)]) acc = acc ++ r := by
    intro O
    induction O with
    | nil => intro acc; exact ⟨[], by simp⟩
    | cons s O ih =>
      intro acc
      rw [List.foldl_cons]
      obtain ⟨r, e⟩ := ih (acc ++ [(s, V acc s)])
      exact ⟨(s, V acc s) :: r, by rw [e]; simp⟩
  exact key O2 _
theorem runV_at {α : Type} [Inhabited α] (V : List (Sp × α) → Sp → α) {O : List Sp} (hn : O.Nodup) {O1 O2 : List Sp} {s : Sp} (e : O = O1 ++ s :: O2) :
    gv (runV V O) s = V (runV V O1) s ∧ ∀ t ∈ O1, (t, gv (runV V O) t) ∈ runV V O1 := by
  have hk : ((runV V O).map (·.1)).Nodup := by rw [runV_keys]; exact hn
  obtain ⟨r, h1⟩ := runV_app V (O1 ++ [s]) O2
  have h2 : O = (O1 ++ [s]) ++ O2 := by rw [e]; simp
  rw [← h2, runV_snoc] at h1
  constructor
  · exact gv_mem hk (p := (s, V (runV V O1) s)) (by rw [h1]; simp)
  · intro t ht
    have : t ∈ (runV V O1).map (·.1) := by rw [runV_keys]; exact ht
    obtain ⟨p, mp, rfl⟩ := List.mem_map.mp this
    have := gv_mem hk (p := p) (by rw [h1]; simp [mp])
    rw [this]
    exact mp
theorem split_at {α : Type} {O : List α} {s : α} (m : s ∈ O) : ∃ O1 O2, O = O1 ++ s :: O2 := List.append_of_mem m
/-! nests -/
theorem ordF_asc (S : List Sp) : (ordF S).Pairwise fun a b => (a.1 : Int) ≤ b.1 := bykey_asc (fun s : Sp => (s.1 : Int)) S
theorem ordL_asc (S : List Sp) : (ordL S).Pairwise fun a b => (a.2 : Int) ≤ b.2 := bykey_asc (fun s : Sp => (s.2 : Int)) S
end W_bandhems_k59_seats_gaps_and_stabs

/-! K59S: seats, stabs. -/
namespace W_bandhems_k59_seats_gaps_and_stabs
open G
noncomputable def seat (w : List Nat) (s : Sp) : Nat := gv (SEA (SS w)) s
theorem op_iff (s : Sp) (k : Nat) : op s k = true ↔ s.1 ≤ k ∧ k < s.2 := by simp [op]
theorem stV_is (acc : List (Sp × Nat)) (s : Sp) : stV acc s = lf ((acc.filter fun p => op p.1 s.1).map (·.2)) := rfl
theorem pairs_is {α : Type} (g : Sp → α) : ∀ {l : List (Sp × α)}, (∀ p ∈ l, p = (p.1, g p.1)) → l = (l.map (·.1)).map fun s => (s, g s)
  | [], _ => rfl
  | p :: l, h => by
    have ih := pairs_is g (l := l) fun q m => h q (by simp [m])
    rw [List.map_cons, List.map_cons, ← ih, ← h p (by simp)]
/-- the seat of a span, by those ahead of it -/
theorem seat_at {w : List Nat} (h : Wd w) {t : Sp} (mt : t ∈ SS w) : ∃ O1 : List Sp, O1.Nodup ∧ t ∉ O1 ∧ (∀ s, s ∈ O1 → s ∈ SS w ∧ s.1 < t.1) ∧ (∀ s ∈ SS w, s.1 < t.1 → s ∈ O1) ∧ seat w t = lf ((O1.filter fun s => op s t.1).map (seat w)) := by
  have hO := ordF_nd (SS_nd h)
  obtain ⟨O1, O2, e⟩ := split_at (ordF_mem.mpr mt)
  obtain ⟨h1, h2⟩ := runV_at stV hO e
  have ha := ordF_asc (SS w)
  rw [e] at ha hO
  have hnd := List.nodup_append.mp hO
  have hlt : ∀ s, s ∈ O1 → s ∈ SS w ∧ s.1 < t.1 := fun s ms => by
    have m1 : s ∈ SS w := ordF_mem.mp (by rw [e]; exact List.mem_append_left _ ms)
    have := (List.pairwise_append.mp ha).2.2 s ms t (by simp)
    have ne : s ≠ t := hnd.2.2 s ms t (by simp)
    have := (SS_ne h m1 mt ne).1
    exact ⟨m1, by omega⟩
  refine ⟨O1, hnd.1, fun m => hnd.2.2 t m t (by simp) rfl, hlt, fun s ms lt => ?_, ?_⟩
  · have m := ordF_mem.mpr ms
    rw [e] at m
    rcases List.mem_append.mp m with m | m
    · exact m
    · rcases List.mem_cons.mp m with q | m
      · rw [q] at lt; omega
      · have := (List.pairwise_cons.mp (List.pairwise_append.mp ha).2.1).1 s m
        omega
  · unfold seat SEA
    rw [h1, stV_is]
    congr 1
    have hr : runV stV O1 = O1.map fun s => (s, gv (runV stV (ordF (SS w))) s) := by
      have hk := runV_keys stV O1
      have hall : ∀ p ∈ runV stV O1, p = (p.1, gv (runV stV (ordF (SS w))) p.1) := fun p mp => by
        have m1 : p.1 ∈ O1 := by rw [← hk]; exact List.mem_map.mpr ⟨p, mp, rfl⟩
        have := h2 p.1 m1
        exact nd_inj (by rw [hk]; exact hnd.1) mp this rfl
      have := pairs_is (gv (runV stV (ordF (SS w)))) hall
      rwa [hk] at this
    rw [hr, List.filter_map, List.map_map]
    rfl
theorem seat_ne {w : List Nat} (h : Wd w) {s t : Sp} (ms : s ∈ SS w) (mt : t ∈ SS w) (ne : s ≠ t) (ov : R2 s t) : seat w s ≠ seat w t := by
  have key : ∀ {s t : Sp}, s ∈ SS w → t ∈ SS w → R2 s t → s.1 < t.1 → seat w s ≠ seat w t := by
    intro s t ms mt ov lt e
    obtain ⟨O1, _, _, _, h4, h5⟩ := seat_at h mt
    have := lf_no ((O1.filter fun s => op s t.1).map (seat w))
    rw [← h5] at this
    exact this (List.mem_map.mpr ⟨s, List.mem_filter.mpr ⟨h4 s ms lt, (op_iff _ _).mpr ⟨Nat.le_of_lt lt, ov.2⟩⟩, e⟩)
  have := (SS_ne h ms mt ne).1
  rcases Nat.lt_or_gt_of_ne this with lt | lt
  · exact key ms mt ov lt
  · exact fun e => key mt ms ⟨ov.2, ov.1⟩ lt e.symm
/-- so many overlap at the beginning of a span -/
theorem seat_lot {w : List Nat} (h : Wd w) {t : Sp} (mt : t ∈ SS w) : ∃ xs, Lot R2 (SS w) xs ∧ seat w t + 1 ≤ xs.length ∧ ∀ j, j < seat w t → ∃ s ∈ SS w, seat w s = j := by
  obtain ⟨O1, h1, h2, h3, h4, h5⟩ := seat_at h mt
  have tl := SS_lt h mt
  have hop : ∀ x ∈ t :: O1.filter fun s => op s t.1, x.1 ≤ t.1 ∧ t.1 < x.2 ∧ x ∈ SS w := fun x m => by
    rcases List.mem_cons.mp m with e | m
    · rw [e]; exact ⟨Nat.le_refl _, tl.1, mt⟩
    · rw [List.mem_filter] at m
      have := (op_iff _ _).mp m.2
      exact ⟨this.1, this.2, (h3 x m.1).1⟩
  have hj : ∀ j, j < seat w t → j ∈ (O1.filter fun s => op s t.1).map (seat w) := fun j hj => lf_all _ j (by rw [← h5]; exact hj)
  refine ⟨t :: O1.filter fun s => op s t.1, ⟨?_, fun x m => (hop x m).2.2, fun x mx y my _ => ?_⟩, ?_, fun j hj' => ?_⟩
  · exact List.nodup_cons.mpr ⟨fun m => h2 (List.mem_filter.mp m).1, h1.sublist List.filter_sublist⟩
  · have a := hop x mx
    have b := hop y my
    exact ⟨by omega, by omega⟩
  · have := nd_len (List.nodup_range (n := seat w t)) (m := (O1.filter fun s => op s t.1).map (seat w)) fun j m => hj j (List.mem_range.mp m)
    rw [List.length_range, List.length_map] at this
    rw [List.length_cons]
    omega
  · obtain ⟨s, ms, e⟩ := List.mem_map.mp (hj j hj')
    exact ⟨s, (h3 s (List.mem_filter.mp ms).1).1, e⟩
theorem si_is (w : List Nat) : si w = (SS w).map fun s => (seat w s : Int) := rfl
/-- the greatest seat -/
theorem maxI_ge : ∀ (a : Int) (ns : List Int), ∀ x ∈ a :: ns, x ≤ maxI a ns
  | a, [], x, m => by
    have : x = a := by simpa using m
    rw [this]; exact Int.le_refl _
  | a, n :: ns, x, m => by
    have ih := maxI_ge (if a < n then n else a) ns
    have hb : maxI a (n :: ns) = maxI (if a < n then n else a) ns := rfl
    rw [hb]
    have h0 := ih (if a < n then n else a) (by simp)
    rcases List.mem_cons.mp m with e | m
    · rw [e]; split at h0 <;> split <;> omega
    · rcases List.mem_cons.mp m with e | m
      · rw [e]; split at h0 <;> split <;> omega
      · exact ih x (by simp [m])
theorem maxI_mem : ∀ (a : Int) (ns : List Int), maxI a ns ∈ a :: ns
  | a, [] => by simp [maxI]
  | a, n :: ns => by
    have ih := maxI_mem (if a < n then n else a) ns
    have hb : maxI a (n :: ns) = maxI (if a < n then n else a) ns := rfl
    rw [hb]
    rcases List.mem_cons.mp ih with e | m
    · rw [e]; split <;> simp
    · simp [m]
/-- as many seats are used as the greatest one tells -/
theorem seats_top {w : List Nat} (h : Wd w) {t : Sp} (mt : t ∈ SS w) (top : ∀ s ∈ SS w, seat w s ≤ seat w t) : N2 w = seat w t + 1 := by
  have hx := (seat_lot h mt).choose_spec.2.2
  have e1 : ((List.range (seat w t + 1)).map fun n : Nat => (n : Int)).length = (dis (si w)).length := by
    refine dis_len ?_ fun k => ?_
    · refine List.pairwise_map.mpr (List.nodup_range.imp fun {a b} ne e => ne (by omega))
    · rw [si_is, List.mem_map, List.mem_map]
      constructor
      · rintro ⟨j, mj, rfl⟩
        have := List.mem_range.mp mj
        by_cases q : j = seat w t
        · exact ⟨t, mt, by rw [q]⟩
        · obtain ⟨s, ms, e⟩ := hx j (by omega)
          exact ⟨s, ms, by rw [e]⟩
      · rintro ⟨s, ms, rfl⟩
        exact ⟨seat w s, List.mem_range.mpr (by have := top s ms; omega), rfl⟩
  rw [List.length_map, List.length_range] at e1
  exact e1.symm
theorem top_ex {w : List Nat} (h : SS w ≠ []) : ∃ t ∈ SS w, (∀ s ∈ SS w, seat w s ≤ seat w t) ∧ mxs (si w) = seat w t := by
  rw [si_is]
  cases hS : SS w with
  | nil => exact absurd hS h
  | cons s S =>
    rw [List.map_cons]
    have h1 := maxI_mem (seat w s : Int) (S.map fun s => (seat w s : Int))
    have h2 := maxI_ge (seat w s : Int) (S.map fun s => (seat w s : Int))
    rw [← List.map_cons (f := fun s => (seat w s : Int))] at h1 h2
    obtain ⟨t, mt, e⟩ := List.mem_map.mp h1
    refine ⟨t, mt, fun x mx => ?_, e.symm⟩
    have := h2 _ (List.mem_map.mpr ⟨x, mx, rfl⟩)
    omega
theorem max2 {w : List Nat} (h : Wd w) : Max R2 (SS w) (N2 w) := by
  have ub : ∀ xs, Lot R2 (SS w) xs → xs.length ≤ N2 w := fun xs hx => by
    have := nd_len (l := xs.map fun s => (seat w s : Int)) (m := dis (si w)) (by
      refine List.pairwise_map.mpr (hx.n.imp_of_mem fun {a b} ma mb ne e => ?_)
      exact seat_ne h (hx.s a ma) (hx.s b mb) ne (hx.r a ma b mb ne) (by omega)) fun k mk => by
      obtain ⟨s, ms, rfl⟩ := List.mem_map.mp mk
      exact (dis_mem _ _).mpr (by rw [si_is]; exact List.mem_map.mpr ⟨s, hx.s s ms, rfl⟩)
    rwa [List.length_map] at this
  refine ⟨?_, ub⟩
  by_cases hS : SS w = []
  · refine ⟨[], lot_nil, ?_⟩
    rw [N2, si_is, hS]
    rfl
  · obtain ⟨t, mt, top, _⟩ := top_ex hS
    obtain ⟨xs, h1, h2, _⟩ := seat_lot h mt
    refine ⟨xs, h1, ?_⟩
    have := ub xs h1
    have := seats_top h mt top
    omega
theorem mxs_is {w : List Nat} (h : Wd w) (hn : 2 ≤ w.length) : mxs (si w) + 1 = (N2 w : Int) := by
  obtain ⟨t, mt, top, e⟩ := top_ex (SS_ne_nil h hn)
  have := seats_top h mt top
  omega
/-! stabs -/
structure St (O : List Sp) (p : List Sp × Int) : Prop where
  l : ∀ t ∈ p.1, (t.2 : Int) - 1 ≤ p.2
  e : p.2 = -1 ∨ ∃ t ∈ p.1, p.2 = (t.2 : Int) - 1
  c : ∀ s ∈ O, ∃ t ∈ p.1, (s.1 : Int) ≤ (t.2 : Int) - 1 ∧ (t.2 : Int) - 1 < s.2
  d : p.1.Pairwise fun a b => a.2 ≤ b.1
  m : ∀ t ∈ p.1, t ∈ O
theorem st_run : ∀ (n : Nat) (O : List Sp), O.length = n → O.Pairwise (fun a b => (a.2 : Int) ≤ b.2) → (∀ s ∈ O, s.1 < s.2) → St O (STBp O)
  | 0, O, hl, _, _ => by
    rw [List.length_eq_zero_iff.mp hl]
    exact ⟨fun t m => (nomatch m), .inl rfl, fun t m => (nomatch m), List.Pairwise.nil, fun t m => (nomatch m)⟩
  | n + 1, O, hl, ha, hs => by
    have hne : O ≠ [] := fun e => by rw [e] at hl; cases hl
    rw [← List.dropLast_concat_getLast hne] at ha hs ⊢
    have hl2 : O.dropLast.length = n := by rw [List.length_dropLast, hl]; rfl
    generalize O.dropLast = O1 at ha hs hl2
    generalize O.getLast hne = s at ha hs
    have ha' := List.pairwise_append.mp ha
    have ih := st_run n O1 hl2 ha'.1 fun x m => hs x (by simp [m])
    rw [STBp_snoc]
    generalize STBp O1 = p at ih
    obtain ⟨found, last⟩ := p
    have hsl := hs s (by simp)
    have hlast : ∀ t ∈ O1, (t.2 : Int) ≤ s.2 := fun t m => ha'.2.2 t m s (by simp)
    by_cases q : last < s.1
    · have hst : stF (found, last) s = (found ++ [s], (s.2 : Int) - 1) := if_pos q
      rw [hst]
      refine ⟨fun t m => ?_, .inr ⟨s, by simp, rfl⟩, fun x m => ?_, ?_, fun t m => ?_⟩
      · rcases List.mem_append.mp m with m | m
        · have := hlast t (ih.m t m)
          show (t.2 : Int) - 1 ≤ (s.2 : Int) - 1
          omega
        · have : t = s := by simpa using m
          rw [this]; exact Int.le_refl _
      · rcases List.mem_append.mp m with m | m
        · obtain ⟨t, mt, h1, h2⟩ := ih.c x m
          exact ⟨t, List.mem_append_left _ mt, h1, h2⟩
        · have : x = s := by simpa using m
          rw [this]
          exact ⟨s, by simp, by omega, by omega⟩
      · refine List.pairwise_append.mpr ⟨ih.d, List.pairwise_singleton _ _, fun a ma b mb => ?_⟩
        have : b = s := by simpa using mb
        rw [this]
        have := ih.l a ma
        simp only at this
        omega
      · rcases List.mem_append.mp m with m | m
        · exact List.mem_append_left _ (ih.m t m)
        · exact List.mem_append_right _ m
    · have hst : stF (found, last) s = (found, last) := if_neg q
      rw [hst]
      refine ⟨ih.l, ih.e, fun x m => ?_, ih.d, fun t m => List.mem_append_left _ (ih.m t m)⟩
      rcases List.mem_append.mp m with m | m
      · exact ih.c x m
      · have : x = s := by simpa using m
        rw [this]
        rcases ih.e with e | ⟨t, mt, e⟩
        · simp only at e; omega
        · have := hlast t (ih.m t mt)
          simp only at e
          exact ⟨t, mt, by omega, by omega⟩
theorem st_ok {w : List Nat} (h : Wd w) : St (ordL (SS w)) (STBp (ordL (SS w))) := st_run _ _ rfl (ordL_asc (SS w)) fun s m => (SS_lt h (ordL_mem.mp m)).1
theorem stb_lot {w : List Nat} (h : Wd w) : Lot R3 (SS w) (STB (SS w)) := by
  have hs := st_ok h
  have hnd : (STB (SS w)).Nodup := (ordL_nd (SS_nd h)).sublist (STB_sub _)
  refine ⟨hnd, fun x m => STB_mem m, fun x mx y my ne => ?_⟩
  have hd := hs.d
  have key : ∀ {l : List Sp}, (∀ x ∈ l, x ∈ SS w) → l.Pairwise (fun a b => a.2 ≤ b.1) → ∀ x ∈ l, ∀ y ∈ l, x ≠ y → R3 x y := by
    intro l
    induction l with
    | nil => intro _ _ x m; cases m
    | cons a l ih =>
      intro hS hp x mx y my ne
      have hp' := List.pairwise_cons.mp hp
      rcases List.mem_cons.mp mx with ex | mx' <;> rcases List.mem_cons.mp my with ey | my'
      · exact absurd (by rw [ex, ey]) ne
      · have h1 := hp'.1 y my'
        have h2 := (SS_ne h (hS x mx) (hS y my) ne).2.2.1
        rw [ex] at h2 ⊢
        exact .inl (by omega)
      · have h1 := hp'.1 x mx'
        have h2 := (SS_ne h (hS y my) (hS x mx) (Ne.symm ne)).2.2.1
        rw [ey] at h2 ⊢
        exact .inr (by omega)
      · exact ih (fun x m => hS x (by simp [m])) hp'.2 x mx' y my' ne
  exact key (fun x m => STB_mem m) hd x mx y my ne
theorem max3 {w : List Nat} (h : Wd w) : Max R3 (SS w) (N3 w) := by
  refine ⟨⟨STB (SS w), stb_lot h, rfl⟩, fun xs hx => ?_⟩
  have hs := st_ok h
  have hc : ∀ x ∈ xs, ∃ t ∈ STB (SS w), (x.1 : Int) ≤ (t.2 : Int) - 1 ∧ (t.2 : Int) - 1 < x.2 := fun x m => hs.c x (ordL_mem.mpr (hx.s x m))
  let f : Sp → Sp := fun x => ((STB (SS w)).find? fun t => decide ((x.1 : Int) ≤ (t.2 : Int) - 1 ∧ (t.2 : Int) - 1 < x.2)).getD (0, 0)
  have hf : ∀ x ∈ xs, f x ∈ STB (SS w) ∧ (x.1 : Int) ≤ ((f x).2 : Int) - 1 ∧ ((f x).2 : Int) - 1 < x.2 := fun x m => by
    obtain ⟨t, mt, h1⟩ := hc x m
    show (((STB (SS w)).find? _).getD _) ∈ _ ∧ _
    cases q : (STB (SS w)).find? fun t => decide ((x.1 : Int) ≤ (t.2 : Int) - 1 ∧ (t.2 : Int) - 1 < x.2) with
    | none =>
      have := List.find?_eq_none.mp q t mt
      simp only [decide_eq_true_eq] at this
      exact absurd h1 this
    | some y =>
      have h2 := List.find?_some q
      simp only [decide_eq_true_eq] at h2
      have h3 : f x = y := by show ((STB (SS w)).find? _).getD _ = _; rw [q]; rfl
      rw [h3]
      exact ⟨List.mem_of_find?_eq_some q, h2⟩
  have := nd_len (l := xs.map f) (m := STB (SS w)) (by
    refine List.pairwise_map.mpr (hx.n.imp_of_mem fun {a b} ma mb ne e => ?_)
    have h1 := hf a ma
    have h2 := hf b mb
    rw [e] at h1
    rcases hx.r a ma b mb ne with q | q <;> omega) fun y my => by
    obtain ⟨x, mx, rfl⟩ := List.mem_map.mp my
    exact (hf x mx).1
  rwa [List.length_map] at this
/-- each stab is in one of the lot alone -/
theorem stab_one {w : List Nat} (h : Wd w) {t s : Sp} (mt : t ∈ STB (SS w)) (ms : s ∈ STB (SS w)) : ((s.1 : Int) ≤ (t.2 : Int) - 1 ∧ (t.2 : Int) - 1 < s.2) ↔ s = t := by
  have tl := (SS_lt h (STB_mem mt)).1
  constructor
  · intro q
    by_cases ne : s = t
    · exact ne
    · rcases (stb_lot h).r s ms t mt ne with k | k <;> omega
  · rintro rfl
    omega
end W_bandhems_k59_seats_gaps_and_stabs

/-! K59T: what is drawn: letters, words. -/
namespace W_bandhems_k59_seats_gaps_and_stabs
open G
abbrev pot (a s c : Int) : T := .ls [.int a, .int s, .int c]
theorem take_ok (a s c n : Int) (h1 : 0 < n) (h2 : n < 1000000) : ∃ d a' s' c', 0 ≤ d ∧ d < n ∧ m__law_take [.pin (pot a s c), I' n] = some (.p (.int d), [.pin (pot a' s' c'), I' n]) := by
  by_cases h : 0 < a
  · refine ⟨a % n, a / n, s, c, Int.emod_nonneg _ (by omega), Int.emod_lt_of_pos _ h1, ?_⟩
    have e : n.natAbs < 1073741824 := by omega
    simp only [m__law_take, runD_ap]
    simp [b__law_take, h, cDivmod, h1, e, hSub_ap, isLs_ap, putAt_ap, L2.ixN]
  · have g1 : ∀ x : Int, mulOk x (x % 28657 + 40009) = true := fun x => mulOk_r (by omega)
    have g2 : ∀ x : Int, mulOk 50023 x = true := fun x => mulOk_l (by decide)
    have g3 : Nat.log2 83 < 9000 := by decide
    refine ⟨((s * (s % 28657 + 40009) + 50023 * (c + 1) + 17) % 2147483563) / 83 % n, a, (s * (s % 28657 + 40009) + 50023 * (c + 1) + 17) % 2147483563, c + 1, Int.emod_nonneg _ (by omega), Int.emod_lt_of_pos _ h1, ?_⟩
    simp only [m__law_take, runD_ap]
    simp [b__law_take, h, h1, g1, g2, g3, isLs_ap, putAt_ap, L2.ixN]
theorem take_nat (a s c : Int) (n : Nat) (h1 : 0 < n) (h2 : n < 1000000) : ∃ (i : Nat) (a' s' c' : Int), i < n ∧ m__law_take [.pin (pot a s c), I' n] = some (.p (.int i), [.pin (pot a' s' c'), I' n]) := by
  obtain ⟨d, a', s', c', l, u, e⟩ := take_ok a s c n (by omega) (by omega)
  obtain ⟨i, rfl⟩ : ∃ i : Nat, d = i := ⟨d.toNat, by omega⟩
  exact ⟨i, a', s', c', by omega, e⟩
theorem pick_ok (a s c : Int) (ds : List D) (h1 : 0 < ds.length) (h2 : ds.length < 1000000) : ∃ d a' s' c', d ∈ ds ∧ m__law_pick [.pin (pot a s c), .v (.p (.lst ds))] = some (.p d, [.pin (pot a' s' c'), .v (.p (.lst ds))]) := by
  obtain ⟨i, a', s', c', hi, e⟩ := take_nat a s c ds.length h1 h2
  refine ⟨ds[i], a', s', c', List.getElem_mem hi, ?_⟩
  simp only [m__law_pick, runD_ap]
  simp [b__law_pick, argO_zero, refAt_zero, backO, e, T.root, Sl.t, hi]
theorem let_inc : LET.Pairwise (· < ·) := by decide
theorem perm_at {α : Type} : ∀ (l : List α) (i : Nat) (h : i < l.length), l.Perm (l[i] :: l.eraseIdx i)
  | a :: l, 0, _ => .refl _
  | a :: l, i + 1, h => ((perm_at l i (by simpa using h)).cons a).trans (.swap _ _ _)
theorem letters_draw (a s c : Int) (m : Nat) (hm : m ≤ 12) : ∃ a' s' c' l, l.length = m ∧ l.Nodup ∧ (∀ c ∈ l, c ∈ LET) ∧ m__law_letters [.pin (pot a s c), I' m] = some (.ls (sgs l), [.pin (pot a' s' c'), I' m]) := by
  have hL : LET.length = 12 := rfl
  obtain ⟨ρ', e, a1, s1, c1, left, found, o4, hp, hl, rfl⟩ := forF_rg (h := hName 4) (b := l__law_letters_1) (lo := 0) (n := m) (ρ := [.pin (pot a s c), I' m, .v (.ls (sgs LET)), .v (.ls []), .no])
    (fun i ρ => ∃ a s c left found o, (left ++ found).Perm LET ∧ found.length = i ∧ ρ = [.pin (pot a s c), I' m, .v (.ls (sgs left)), .v (.ls (sgs found)), lp o]) ⟨a, s, c, LET, [], none, by simp, rfl, rfl⟩ (by
    rintro i hi _ ⟨a, s, c, left, found, o, hp, hl, rfl⟩
    have hll := hp.length_eq
    rw [List.length_append] at hll
    obtain ⟨k, a', s', c', hk, e⟩ := take_nat a s c left.length (by omega) (by omega)
    have g1 : (sgs left).length ≤ big := by rw [sgs_len, big_is]; omega
    have g2 := sgs_get hk
    have g3 := sgs_erase k left
    have g4 := sgs_len left
    have g5 : sgs found ++ [.str [left[k]]] = sgs (found ++ [left[k]]) := by simp [sgs]
    have g6 : (sgs found).length < big := by rw [sgs_len, big_is]; omega
    refine ⟨[.pin (pot a s c), I' m, .v (.ls (sgs left)), .v (.ls (sgs found)), I' i], [.pin (pot a' s' c'), I' m, .v (.ls (sgs (left.eraseIdx k))), .v (.ls (sgs (found ++ [left[k]]))), I' i], by simp, .inl ?_, a', s', c', left.eraseIdx k, found ++ [left[k]], some (.int i), ?_, by simp [hl], by simp⟩
    · generalize sgs left = ss at g1 g2 g3 g4
      generalize sgs found = ff at g5 g6
      have g7 : left.length ≤ big := by rw [← g4]; exact g1
      simp [l__law_letters_1, isLs_ap, argO_zero, refAt_zero, backO, g4, e, T.root, Sl.t, mPopAt, mApp, hk, g2, g3, g5, g6, g7]
      obtain ⟨_, g8⟩ := List.getElem?_eq_some_iff.mp g2
      rw [g8]
      exact g5
    · refine List.Perm.trans ?_ hp
      rw [← List.append_assoc]
      refine List.Perm.trans List.perm_append_comm ?_
      rw [← List.append_assoc]
      exact (perm_at left k hk).symm.append_right found)
  have hnd : (left ++ found).Nodup := hp.nodup_iff.mpr (let_inc.imp fun {a b} h => by omega)
  refine ⟨a1, s1, c1, found, hl, (List.nodup_append.mp hnd).2.1, fun c m => hp.mem_iff.mp (List.mem_append_right _ m), ?_⟩
  have g1 : LET.length ≤ big := by rw [big_is, hL]; omega
  have g2 : LET.map (fun c => D.str [c]) = sgs LET := rfl
  have g3 : rgOk (m : Int) = true := rgOk_nat (by omega)
  have hb : b__law_letters = (sSeq (sPars [2, 3] (mCons (nCb cListX (aCons (eC (.str LET)) aNil)) (mCons (nLst aNil) mNil)))
    (sSeq (sFor (iRng1 (aCons (eVar 1) aNil)) (hName 4) l__law_letters_1)
    (sRet (nMove 3)))) := rfl
  rw [m__law_letters, runD_ap, hb]
  generalize LET = ll at e g1 g2
  simp [cListX, g1, g2, g3, e]
theorem drawn {names w : List Nat} (hn : names.Nodup) (hl : ∀ c ∈ names, c ∈ LET) (hw : w.Perm (names ++ names)) : Wd w where
  a := fun c m => by
    have := hw.mem_iff.mp m
    rcases List.mem_append.mp this with m | m <;> exact hl c m
  b := fun c _ => by
    rw [hw.count_eq, List.count_append]
    have := List.nodup_iff_count.mp hn c
    omega
  e := by
    have h1 := hw.length_eq
    rw [List.length_append] at h1
    have h2 := nd_len hn hl
    have : LET.length = 12 := rfl
    omega
theorem sSeq_assoc (f g h : Sm) (ρ : Rho) : sSeq (sSeq f g) h ρ = sSeq f (sSeq g h) ρ := by
  simp only [sSeq_ap]
  cases f ρ with
  | none => rfl
  | some o => cases o <;> rfl
def ins (w : List Nat) (k d : Nat) : List Nat := w.take k ++ [d] ++ w.drop k
theorem ins_perm (w : List Nat) (k d : Nat) : (ins w k d).Perm (d :: w) := by
  unfold ins
  rw [List.append_assoc]
  refine List.perm_middle.trans (List.Perm.cons d ?_)
  show (w.take k ++ w.drop k).Perm w
  rw [List.take_append_drop]
theorem ins_sgs (w : List Nat) (k : Nat) (d : Nat) (h : w.length ≤ 1000) (hk : k ≤ 1000) : mIns (sgs w) [.int (k : Int), .str [d]] = some (.non, sgs (ins w k d)) := by
  have h1 : (sgs w).length < big := by rw [sgs_len, big_is]; omega
  simp only [mIns]
  rw [if_pos ⟨h1, by omega, by omega⟩, Int.toNat_natCast]
  simp [sgs, ins, List.map_take, List.map_drop]
def wA : Sm := sSeq (sAsg 6 (nCallO 2 0 m__law_take (aCons (eVar 0) (aCons (eOp cAdd (eCb cLen (aCons (eVar 4) aNil)) (eC (.int 1))) aNil))))
    (sSeq (sIf (bOf (eOp cEq (eVar 3) (eC (.int 0)))) (sAsg 6 (nVal (eOp cDiv (eCb cLen (aCons (eVar 4) aNil)) (eC (.int 2))))) sNil)
    (sIf (bOf (eOp cEq (eVar 3) (eC (.int 1)))) (sAsg 6 (nVal (eCb cLen (aCons (eVar 4) aNil)))) sNil))
def wB : Sm := (sSeq (sE (eMt 4 mIns (aCons (eKeep 6) (aCons (eKeep 5) aNil))))
    (sAsg 7 (nCallO 2 0 m__law_pick (aCons (eVar 0) (aCons (eFrz (nLst (aCons (eC (.int 1)) (aCons (eC (.int 2)) (aCons (eC (.int 3)) (aCons (eC (.int 5)) aNil)))))) aNil)))))
def wC : Sm := (sAsg 8 (nIf (bOf (eOp cGt (eVar 3) (eC (.int 2)))) (nCallO 2 0 m__law_take (aCons (eVar 0) (aCons (eOp cAdd (eCb cLen (aCons (eVar 4) aNil)) (eC (.int 1))) aNil))) (nVal (eCb cMin2 (aCons (eCb cLen (aCons (eVar 4) aNil)) (aCons (eOp cAdd (eOp cAdd (eVar 6) (eC (.int 1))) (eIf (bOf (eOp cLt (eVar 3) (eC (.int 2)))) (eFrz (nCallO 2 0 m__law_take (aCons (eVar 0) (aCons (eKeep 7) aNil)))) (eVar 7))) aNil))))))
def wD : Sm := (sE (eMt 4 mIns (aCons (eKeep 8) (aCons (eKeep 5) aNil))))
theorem word_split (ρ : Rho) : l__law_word_1 ρ = sSeq wA (sSeq wB (sSeq wC wD)) ρ := by
  have h : l__law_word_1 = sSeq (sAsg 6 (nCallO 2 0 m__law_take (aCons (eVar 0) (aCons (eOp cAdd (eCb cLen (aCons (eVar 4) aNil)) (eC (.int 1))) aNil)))) (sSeq (sIf (bOf (eOp cEq (eVar 3) (eC (.int 0)))) (sAsg 6 (nVal (eOp cDiv (eCb cLen (aCons (eVar 4) aNil)) (eC (.int 2))))) sNil) (sSeq (sIf (bOf (eOp cEq (eVar 3) (eC (.int 1)))) (sAsg 6 (nVal (eCb cLen (aCons (eVar 4) aNil)))) sNil) (sSeq (sE (eMt 4 mIns (aCons (eKeep 6) (aCons (eKeep 5) aNil)))) (sSeq (sAsg 7 (nCallO 2 0 m__law_pick (aCons (eVar 0) (aCons (eFrz (nLst (aCons (eC (.int 1)) (aCons (eC (.int 2)) (aCons (eC (.int 3)) (aCons (eC (.int 5)) aNil)))))) aNil)))) (sSeq wC wD))))) := rfl
  have as : ∀ f g h : Sm, sSeq (sSeq f g) h = sSeq f (sSeq g h) := fun f g h => funext (sSeq_assoc f g h)
  rw [h, wA, wB, as, as, as]
abbrev wS (a s c m way : Int) (names w : List Nat) (x : Nat) (o6 o7 o8 : Option D) : Rho := [.pin (pot a s c), I' m, .v (.p (.lst (sgs names))), I' way, .v (.ls (sgs w)), S' [x], lp o6, lp o7, lp o8]
theorem wA_ok (a s c m way : Int) (names w : List Nat) (hw : w.length ≤ 1000) (x : Nat) (o6 o7 o8 : Option D) : ∃ a' s' c', ∃ k : Nat, k ≤ w.length ∧ wA (wS a s c m way names w x o6 o7 o8) = some (.nx (wS a' s' c' m way names w x (some (.int k)) o7 o8)) := by
  obtain ⟨k, a', s', c', hk, e⟩ := take_nat a s c (w.length + 1) (by omega) (by omega)
  have e' : m__law_take [Sl.pin (pot a s c), I' ((w.length : Int) + 1)] = some (.p (.int k), [.pin (pot a' s' c'), I' ((w.length : Int) + 1)]) := by exact_mod_cast e
  have hs := sgs_len w
  have g3 : Nat.log2 2 < 9000 := by decide
  refine ⟨a', s', c', if way = 0 then w.length / 2 else if way = 1 then w.length else k, by split <;> (try split) <;> omega, ?_⟩
  unfold wS
  generalize sgs w = ws at hs
  by_cases h0 : way = 0
  · simp [wA, h0, argO_zero, refAt_zero, backO, hs, e', T.root, Sl.t, g3]
  · by_cases h1 : way = 1
    · simp [wA, h0, h1, argO_zero, refAt_zero, backO, hs, e', T.root, Sl.t, g3]
    · simp [wA, h0, h1, argO_zero, refAt_zero, backO, hs, e', T.root, Sl.t, g3]
theorem wB_ok (a s c m way : Int) (names w : List Nat) (hw : w.length ≤ 1000) (x k : Nat) (hk : k ≤ 1000) (o7 o8 : Option D) : ∃ a' s' c', ∃ d : Nat, 1 ≤ d ∧ d ≤ 5 ∧ wB (wS a s c m way names w x (some (.int k)) o7 o8) = some (.nx (wS a' s' c' m way names (ins w k x) x (some (.int k)) (some (.int d)) o8)) := by
  obtain ⟨q, a', s', c', hq, e⟩ := pick_ok a s c [.int 1, .int 2, .int 3, .int 5] (by simp) (by simp)
  obtain ⟨d, h1, h2, rfl⟩ : ∃ d : Nat, 1 ≤ d ∧ d ≤ 5 ∧ q = .int d := by
    simp only [List.mem_cons, List.not_mem_nil, or_false] at hq
    rcases hq with h | h | h | h <;> subst h
    · exact ⟨1, by omega, by omega, rfl⟩
    · exact ⟨2, by omega, by omega, rfl⟩
    · exact ⟨3, by omega, by omega, rfl⟩
    · exact ⟨5, by omega, by omega, rfl⟩
  refine ⟨a', s', c', d, h1, h2, ?_⟩
  have g4 : 4 ≤ big := by decide
  have hi := ins_sgs w k x hw hk
  unfold wS
  generalize sgs (ins w k x) = ws' at hi
  generalize sgs w = ws at hi
  simp [wB, isLs_ap, hi, argO_zero, refAt_zero, backO, e, T.root, Sl.t, g4]
theorem wC_ok (a s c m way : Int) (names w : List Nat) (hw : w.length ≤ 1000) (x k d : Nat) (hk : k ≤ 1000) (h1 : 1 ≤ d) (h2 : d ≤ 5) (o8 : Option D) : ∃ a' s' c', ∃ j : Nat, j ≤ 1000 ∧ wC (wS a s c m way names w x (some (.int k)) (some (.int d)) o8) = some (.nx (wS a' s' c' m way names w x (some (.int k)) (some (.int d)) (some (.int j)))) := by
  have hs := sgs_len w
  unfold wS
  by_cases h0 : 2 < way
  · obtain ⟨j, a', s', c', hj, e⟩ := take_nat a s c (w.length + 1) (by omega) (by omega)
    have e' : m__law_take [Sl.pin (pot a s c), I' ((w.length : Int) + 1)] = some (.p (.int j), [.pin (pot a' s' c'), I' ((w.length : Int) + 1)]) := by exact_mod_cast e
    refine ⟨a', s', c', j, by omega, ?_⟩
    generalize sgs w = ws at hs
    simp [wC, h0, argO_zero, refAt_zero, backO, hs, e', T.root, Sl.t]
  · by_cases h3 : way < 2
    · obtain ⟨j, a', s', c', hj, e⟩ := take_nat a s c d (by omega) (by omega)
      refine ⟨a', s', c', if ((k : Int) + 1 + j) < w.length then k + 1 + j else w.length, by split <;> omega, ?_⟩
      generalize sgs w = ws at hs
      simp [wC, h0, h3, argO_zero, refAt_zero, backO, hs, e, T.root, Sl.t, cMin2]
      split <;> rfl
    · refine ⟨a, s, c, if ((k : Int) + 1 + d) < w.length then k + 1 + d else w.length, by split <;> omega, ?_⟩
      generalize sgs w = ws at hs
      simp [wC, h0, h3, hs, cMin2]
      split <;> rfl
theorem wD_ok (a s c m way : Int) (names w : List Nat) (hw : w.length ≤ 1000) (x j : Nat) (hj : j ≤ 1000) (o6 o7 : Option D) : wD (wS a s c m way names w x o6 o7 (some (.int j))) = some (.nx (wS a s c m way names (ins w j x) x o6 o7 (some (.int j)))) := by
  have hi := ins_sgs w j x hw hj
  unfold wS
  generalize sgs (ins w j x) = ws' at hi
  generalize sgs w = ws at hi
  simp [wD, isLs_ap, hi]
theorem word_step (a s c m way : Int) (names w : List Nat) (hw : w.length ≤ 100) (x : Nat) (o6 o7 o8 : Option D) : ∃ a' s' c' w' o6' o7' o8', w'.Perm (x :: x :: w) ∧ l__law_word_1 (wS a s c m way names w x o6 o7 o8) = some (.nx (wS a' s' c' m way names w' x o6' o7' o8')) := by
  obtain ⟨a1, s1, c1, k, hk, e1⟩ := wA_ok a s c m way names w (by omega) x o6 o7 o8
  obtain ⟨a2, s2, c2, d, h1, h2, e2⟩ := wB_ok a1 s1 c1 m way names w (by omega) x k (by omega) o7 o8
  have p1 := ins_perm w k x
  have l1 := p1.length_eq
  rw [List.length_cons] at l1
  obtain ⟨a3, s3, c3, j, hj, e3⟩ := wC_ok a2 s2 c2 m way names (ins w k x) (by omega) x k d (by omega) h1 h2 o8
  have e4 := wD_ok a3 s3 c3 m way names (ins w k x) (by omega) x j hj (some (.int k)) (some (.int d))
  refine ⟨a3, s3, c3, ins (ins w k x) j x, some (.int k), some (.int d), some (.int j), (ins_perm _ j x).trans (p1.cons x), ?_⟩
  rw [word_split]
  simp only [sSeq_ap, e1, e2, e3, e4, Option.bind_some]
theorem take_one {α : Type} : ∀ (l : List α) (i : Nat) (h : i < l.length), (l.take (i + 1)).Perm (l[i] :: l.take i)
  | a :: l, 0, _ => by simp
  | a :: l, i + 1, h => ((take_one l i (by simpa using h)).cons a).trans (.swap _ _ _)
theorem word_draw (a s c : Int) (m : Nat) (hm : m ≤ 12) : ∃ a' s' c' w, Wd w ∧ w.length = 2 * m ∧ m__law_word [.pin (pot a s c), I' m] = some (.p (.str w), [.pin (pot a' s' c'), I' m]) := by
  obtain ⟨a1, s1, c1, names, hl, hn, hs, e1⟩ := letters_draw a s c m hm
  obtain ⟨way, a2, s2, c2, _, _, e2⟩ := take_ok a1 s1 c1 6 (by omega) (by omega)
  obtain ⟨ρ', e, a3, s3, c3, w, o5, o6, o7, o8, hp, rfl⟩ := forF_rel (h := hName 5) (b := l__law_word_1) (ds := sgs names) (ρ := [.pin (pot a2 s2 c2), I' m, .v (.p (.lst (sgs names))), I' way, .v (.ls []), .no, .no, .no, .no])
    (fun i ρ => ∃ a s c w o5 o6 o7 o8, w.Perm (names.take i ++ names.take i) ∧ ρ = [.pin (pot a s c), I' m, .v (.p (.lst (sgs names))), I' way, .v (.ls (sgs w)), lp o5, lp o6, lp o7, lp o8]) ⟨a2, s2, c2, [], none, none, none, none, by simp, rfl⟩ (by
    rintro i hi _ ⟨a, s, c, w, o5, o6, o7, o8, hp, rfl⟩
    have hi' : i < names.length := by rwa [sgs_len] at hi
    have hg : (sgs names)[i] = .str [names[i]] := by simp [sgs]
    rw [hg]
    have hwl := hp.length_eq
    rw [List.length_append, List.length_take] at hwl
    obtain ⟨a', s', c', w', o6', o7', o8', hp', e⟩ := word_step a s c m way names w (by omega) names[i] o6 o7 o8
    refine ⟨wS a s c m way names w names[i] o6 o7 o8, wS a' s' c' m way names w' names[i] o6' o7' o8', by simp, .inl e, a', s', c', w', some (.str [names[i]]), o6', o7', o8', ?_, rfl⟩
    have q := take_one names i hi'
    refine hp'.trans (List.Perm.trans ?_ (q.append q).symm)
    exact ((hp.cons _).trans List.perm_middle.symm).cons _)
  rw [sgs_len, List.take_length] at hp
  have hwl := hp.length_eq
  rw [List.length_append] at hwl
  refine ⟨a3, s3, c3, w, drawn hn hs hp, by omega, ?_⟩
  have hj := cJoin_sgs w (by rw [big_is]; omega)
  have hb : b__law_word = (sSeq (sPars [2, 3, 4] (mCons (nCallO 2 0 m__law_letters (aCons (eVar 0) (aCons (eKeep 1) aNil))) (mCons (nCallO 2 0 m__law_take (aCons (eVar 0) (aCons (eC (.int 6)) aNil))) (mCons (nLst aNil) mNil))))
    (sSeq (sFor (iSeq (eKeep 2)) (hName 5) l__law_word_1)
    (sRet (nVal (eJoin (eC (.str [])) (eVar 4)))))) := rfl
  rw [m__law_word, runD_ap, hb]
  generalize sgs names = ns at e e1
  generalize sgs w = ws at e hj
  simp [argO_zero, refAt_zero, backO, e1, e2, T.root, Sl.t, seqD, e, hj]
end W_bandhems_k59_seats_gaps_and_stabs

/-! K59U: words from their ends, with other letters, without a letter. -/
namespace W_bandhems_k59_seats_gaps_and_stabs
open G
theorem lot_map {R : Sp → Sp → Prop} {S S' : List Sp} (φ : Sp → Sp) (hs : ∀ s ∈ S, φ s ∈ S') (hi : ∀ s ∈ S, ∀ t ∈ S, φ s = φ t → s = t) (hr : ∀ s ∈ S, ∀ t ∈ S, s ≠ t → R s t → R (φ s) (φ t)) {xs : List Sp} (h : Lot R S xs) : Lot R S' (xs.map φ) where
  n := List.pairwise_map.mpr (h.n.imp_of_mem fun {a b} ma mb ne e => ne (hi a (h.s a ma) b (h.s b mb) e))
  s := fun x m => by
    obtain ⟨a, ma, rfl⟩ := List.mem_map.mp m
    exact hs a (h.s a ma)
  r := fun x mx y my ne => by
    obtain ⟨a, ma, rfl⟩ := List.mem_map.mp mx
    obtain ⟨b, mb, rfl⟩ := List.mem_map.mp my
    have hab : a ≠ b := fun e => ne (by rw [e])
    exact hr a (h.s a ma) b (h.s b mb) hab (h.r a ma b mb hab)
theorem max_le {R : Sp → Sp → Prop} {S S' : List Sp} {n n' : Nat} (φ : Sp → Sp) (hs : ∀ s ∈ S, φ s ∈ S') (hi : ∀ s ∈ S, ∀ t ∈ S, φ s = φ t → s = t) (hr : ∀ s ∈ S, ∀ t ∈ S, s ≠ t → R s t → R (φ s) (φ t)) (h : Max R S n) (h' : Max R S' n') : n ≤ n' := by
  obtain ⟨xs, h1, h2⟩ := h.ex
  have := h'.ub _ (lot_map φ hs hi hr h1)
  rw [List.length_map] at this
  omega
theorem sp_is {w : List Nat} (h : Wd w) {c a b : Nat} (ab : a < b) (ha : w[a]? = some c) (hb : w[b]? = some c) : sp w c = (a, b) := by
  have m : c ∈ w := List.mem_of_getElem? ha
  have h1 := (place_iff h m a).mp ha
  have h2 := (place_iff h m b).mp hb
  have h3 := fp_lt h m
  have : fp w c = a ∧ lq w c = b := by omega
  exact Prod.ext this.1 this.2
/-! from its end -/
theorem Wd.rev {w : List Nat} (h : Wd w) : Wd w.reverse := ⟨fun c m => h.a c (List.mem_reverse.mp m), fun c m => by rw [List.count_reverse]; exact h.b c m, by rw [List.length_reverse]; exact h.e⟩
def mir (n : Nat) (s : Sp) : Sp := (n - 1 - s.2, n - 1 - s.1)
theorem sp_rev {w : List Nat} (h : Wd w) {c : Nat} (m : c ∈ w) : sp w.reverse c = mir w.length (sp w c) := by
  have h1 := fp_lt h m
  have h2 := lq_len h m
  refine sp_is h.rev ?_ ?_ ?_
  · show w.length - 1 - lq w c < w.length - 1 - fp w c
    omega
  · show w.reverse[w.length - 1 - lq w c]? = some c
    rw [List.getElem?_reverse (by omega), show w.length - 1 - (w.length - 1 - lq w c) = lq w c by omega]
    exact (place_iff h m _).mpr (.inr rfl)
  · show w.reverse[w.length - 1 - fp w c]? = some c
    rw [List.getElem?_reverse (by omega), show w.length - 1 - (w.length - 1 - fp w c) = fp w c by omega]
    exact (place_iff h m _).mpr (.inl rfl)
theorem rev_le {R : Sp → Sp → Prop} (hR : ∀ (n : Nat) (s t : Sp), s.1 < s.2 → s.2 < n → t.1 < t.2 → t.2 < n → R s t → R (mir n s) (mir n t)) {w : List Nat} (h : Wd w) {n n' : Nat} (hm : Max R (SS w) n) (hm' : Max R (SS w.reverse) n') : n ≤ n' := by
  refine max_le (mir w.length) (fun s ms => ?_) (fun s ms t mt e => ?_) (fun s ms t mt _ r => ?_) hm hm'
  · obtain ⟨c, mc, rfl⟩ := mem_SS ms
    rw [← sp_rev h mc]
    exact sp_SS (List.mem_reverse.mpr mc)
  · have h1 := SS_lt h ms
    have h2 := SS_lt h mt
    simp only [mir, Prod.mk.injEq] at e
    exact Prod.ext (by omega) (by omega)
  · have h1 := SS_lt h ms
    have h2 := SS_lt h mt
    exact hR _ s t h1.1 h1.2 h2.1 h2.2 r
theorem rev_eq {R : Sp → Sp → Prop} (hR : ∀ (n : Nat) (s t : Sp), s.1 < s.2 → s.2 < n → t.1 < t.2 → t.2 < n → R s t → R (mir n s) (mir n t)) {w : List Nat} (h : Wd w) {n n' : Nat} (hm : Max R (SS w) n) (hm' : Max R (SS w.reverse) n') : n' = n := by
  have h1 := rev_le hR h hm hm'
  have h2 := rev_le hR h.rev hm' (n' := n) (by rw [List.reverse_reverse]; exact hm)
  omega
theorem N2_rev {w : List Nat} (h : Wd w) : N2 w.reverse = N2 w := rev_eq (R := R2) (fun n s t h1 h2 h3 h4 r => by
  unfold R2 at r ⊢
  simp only [mir]
  omega) h (max2 h) (max2 h.rev)
theorem N3_rev {w : List Nat} (h : Wd w) : N3 w.reverse = N3 w := rev_eq (R := R3) (fun n s t h1 h2 h3 h4 r => by
  unfold R3 at r ⊢
  simp only [mir]
  omega) h (max3 h) (max3 h.rev)
/-! without a letter -/
def wo (x : Nat) (w : List Nat) : List Nat := w.filter fun c => !decide (c = x)
theorem mem_wo {x c : Nat} {w : List Nat} : c ∈ wo x w ↔ c ∈ w ∧ c ≠ x := by simp [wo]
theorem Wd.wo {w : List Nat} (h : Wd w) (x : Nat) : Wd (wo x w) := by
  refine ⟨fun c m => h.a c (mem_wo.mp m).1, fun c m => ?_, ?_⟩
  · by_cases q : c = x
    · left
      exact List.count_eq_zero.mpr fun z => (mem_wo.mp z).2 q
    · have : (W_bandhems_k59_seats_gaps_and_stabs.wo x w).count c = w.count c := List.count_filter (by simpa using q)
      rw [this]
      exact h.b c m
  · have := List.length_filter_le (fun c => !decide (c = x)) w
    have := h.e
    unfold W_bandhems_k59_seats_gaps_and_stabs.wo
    omega
def gp (x : Nat) (w : List Nat) (i : Nat) : Nat := (wo x (w.take i)).length
theorem gp_mono (x : Nat) (w : List Nat) {i j : Nat} (h : i ≤ j) : gp x w i ≤ gp x w j := by
  have e : w.take i = (w.take j).take i := by rw [List.take_take, Nat.min_eq_left h]
  unfold gp wo
  rw [e]
  exact ((List.take_sublist i (w.take j)).filter _).length_le
theorem gp_succ {x c : Nat} {w : List Nat} {i : Nat} (h : w[i]? = some c) (ne : c ≠ x) : gp x w (i + 1) = gp x w i + 1 := by
  unfold gp wo
  rw [List.take_add_one, h, List.filter_append, List.length_append]
  simp [ne]
theorem gp_lt {x c : Nat} {w : List Nat} {i j : Nat} (h : w[i]? = some c) (ne : c ≠ x) (l : i < j) : gp x w i < gp x w j := by
  have := gp_succ h ne
  have := gp_mono x w (i := i + 1) (j := j) l
  omega
theorem wo_get {x c : Nat} {w : List Nat} {i : Nat} (h : w[i]? = some c) (ne : c ≠ x) : (wo x w)[gp x w i]? = some c := by
  obtain ⟨hi, e⟩ := List.getElem?_eq_some_iff.mp h
  have hw : w = w.take i ++ c :: w.drop (i + 1) := by
    rw [← e, List.getElem_cons_drop, List.take_append_drop]
  have h2 : wo x w = wo x (w.take i) ++ c :: wo x (w.drop (i + 1)) := by
    conv => lhs; rw [hw]
    unfold wo
    rw [List.filter_append, List.filter_cons, if_pos (by simpa using ne)]
  rw [h2, gp, List.getElem?_append_right (Nat.le_refl _), Nat.sub_self]
  rfl
theorem sp_wo {w : List Nat} (h : Wd w) {c x : Nat} (m : c ∈ w) (ne : c ≠ x) : sp (wo x w) c = (gp x w (fp w c), gp x w (lq w c)) := by
  have a := (place_iff h m (fp w c)).mpr (.inl rfl)
  have b := (place_iff h m (lq w c)).mpr (.inr rfl)
  exact sp_is (h.wo x) (gp_lt a ne (fp_lt h m)) (wo_get a ne) (wo_get b ne)
/-- what looks at the order of ends alone -/
def Ord (R : Sp → Sp → Prop) : Prop := ∀ s t s' t' : Sp, (s.1 < t.1 ↔ s'.1 < t'.1) → (t.1 < s.1 ↔ t'.1 < s'.1) → (s.2 < t.2 ↔ s'.2 < t'.2) → (t.2 < s.2 ↔ t'.2 < s'.2) → (s.1 < t.2 ↔ s'.1 < t'.2) → (t.1 < s.2 ↔ t'.1 < s'.2) → (s.2 < t.1 ↔ s'.2 < t'.1) → (t.2 < s.1 ↔ t'.2 < s'.1) → (R s t ↔ R s' t')
theorem ord2 : Ord R2 := fun s t s' t' h1 h2 h3 h4 h5 h6 h7 h8 => by unfold R2; rw [h5, h6]
theorem ord3 : Ord R3 := fun s t s' t' h1 h2 h3 h4 h5 h6 h7 h8 => by unfold R3; rw [h7, h8]
theorem gp_iff {x c d : Nat} {w : List Nat} {i j : Nat} (h : w[i]? = some c) (nc : c ≠ x) (g : w[j]? = some d) (nd : d ≠ x) : i < j ↔ gp x w i < gp x w j := by
  constructor
  · exact gp_lt h nc
  · intro q
    rcases Nat.lt_trichotomy i j with k | k | k
    · exact k
    · rw [k] at q; omega
    · have := gp_lt g nd k
      omega
theorem wo_iff {R : Sp → Sp → Prop} (o : Ord R) {w : List Nat} (h : Wd w) {c d x : Nat} (mc : c ∈ w) (md : d ∈ w) (nc : c ≠ x) (nd : d ≠ x) : R (sp w c) (sp w d) ↔ R (sp (wo x w) c) (sp (wo x w) d) := by
  rw [sp_wo h mc nc, sp_wo h md nd]
  have a := (place_iff h mc (fp w c)).mpr (.inl rfl)
  have b := (place_iff h mc (lq w c)).mpr (.inr rfl)
  have a' := (place_iff h md (fp w d)).mpr (.inl rfl)
  have b' := (place_iff h md (lq w d)).mpr (.inr rfl)
  exact o _ _ _ _ (gp_iff a nc a' nd) (gp_iff a' nd a nc) (gp_iff b nc b' nd) (gp_iff b' nd b nc) (gp_iff a nc b' nd) (gp_iff a' nd b nc) (gp_iff b nc a' nd) (gp_iff b' nd a nc)
theorem wo_le {R : Sp → Sp → Prop} (o : Ord R) {w : List Nat} (h : Wd w) (x : Nat) {n n' : Nat} (hm : Max R (SS w) n) (hm' : Max R (SS (wo x w)) n') : n' ≤ n ∧ n ≤ n' + 1 := by
  have h' := h.wo x
  constructor
  · refine max_le (fun s => sp w (lr (wo x w) s)) (fun s ms => ?_) (fun s ms t mt e => ?_) (fun s ms t mt _ r => ?_) hm' hm
    · exact sp_SS (mem_wo.mp (lr_mem h' ms)).1
    · have h1 := lr_mem h' ms
      have h2 := lr_mem h' mt
      have e2 := congrArg (lr w) e
      rw [lr_sp h (mem_wo.mp h1).1, lr_sp h (mem_wo.mp h2).1] at e2
      exact lr_inj h' ms mt e2
    · have h1 := mem_wo.mp (lr_mem h' ms)
      have h2 := mem_wo.mp (lr_mem h' mt)
      refine (wo_iff o h h1.1 h2.1 h1.2 h2.2).mpr ?_
      rw [sp_lr h' ms, sp_lr h' mt]
      exact r
  · obtain ⟨xs, h1, h2⟩ := hm.ex
    have hle : xs.length ≤ (xs.filter fun s => !decide (lr w s = x)).length + 1 := by
      have := nd_len (l := xs) (m := sp w x :: xs.filter fun s => !decide (lr w s = x)) h1.n fun s ms => by
        by_cases q : lr w s = x
        · have : s = sp w x := by rw [← q, sp_lr h (h1.s s ms)]
          rw [this]
          simp
        · exact List.mem_cons_of_mem _ (List.mem_filter.mpr ⟨ms, by simpa using q⟩)
      rwa [List.length_cons] at this
    have hl : Lot R ((SS w).filter fun s => !decide (lr w s = x)) (xs.filter fun s => !decide (lr w s = x)) := ⟨h1.n.sublist List.filter_sublist, fun s m => by
      have := List.mem_filter.mp m
      exact List.mem_filter.mpr ⟨h1.s s this.1, this.2⟩, fun s ms t mt => h1.r s (List.mem_filter.mp ms).1 t (List.mem_filter.mp mt).1⟩
    have hq : ∀ s ∈ (SS w).filter (fun s => !decide (lr w s = x)), s ∈ SS w ∧ lr w s ∈ w ∧ lr w s ≠ x := fun s ms => by
      have := List.mem_filter.mp ms
      exact ⟨this.1, lr_mem h this.1, by simpa using this.2⟩
    have := hm'.ub _ (lot_map (fun s => sp (wo x w) (lr w s)) (fun s ms => sp_SS (mem_wo.mpr (hq s ms).2)) (fun s ms t mt e => by
      have e2 := congrArg (lr (wo x w)) e
      rw [lr_sp h' (mem_wo.mpr (hq s ms).2), lr_sp h' (mem_wo.mpr (hq t mt).2)] at e2
      exact lr_inj h (hq s ms).1 (hq t mt).1 e2) (fun s ms t mt _ r => by
      refine (wo_iff o h (hq s ms).2.1 (hq t mt).2.1 (hq s ms).2.2 (hq t mt).2.2).mp ?_
      rw [sp_lr h (hq s ms).1, sp_lr h (hq t mt).1]
      exact r) hl)
    rw [List.length_map] at this
    omega
/-! with other letters in the same order -/
structure Rn (w : List Nat) (f : Nat → Nat) : Prop where
  m : ∀ c ∈ w, ∀ d ∈ w, c < d → f c < f d
  l : ∀ c ∈ w, f c ∈ LET
theorem Rn.inj {w : List Nat} {f : Nat → Nat} (r : Rn w f) {c d : Nat} (mc : c ∈ w) (md : d ∈ w) (e : f c = f d) : c = d := by
  rcases Nat.lt_trichotomy c d with k | k | k
  · have := r.m c mc d md k; omega
  · exact k
  · have := r.m d md c mc k; omega
theorem Rn.lt {w : List Nat} {f : Nat → Nat} (r : Rn w f) {c d : Nat} (mc : c ∈ w) (md : d ∈ w) : f c < f d ↔ c < d := by
  refine ⟨fun e => ?_, r.m c mc d md⟩
  rcases Nat.lt_trichotomy c d with k | k | k
  · exact k
  · rw [k] at e; omega
  · have := r.m d md c mc k; omega
theorem count_map {f : Nat → Nat} {c : Nat} : ∀ {l : List Nat}, (∀ d ∈ l, f d = f c → d = c) → (l.map f).count (f c) = l.count c
  | [], _ => rfl
  | a :: l, h => by
    have ih := count_map (f := f) (c := c) (l := l) fun d m => h d (by simp [m])
    rw [List.map_cons, List.count_cons, List.count_cons, ih]
    by_cases q : a = c
    · simp [q]
    · have : f a ≠ f c := fun e => q (h a (by simp) e)
      simp [q, this]
theorem Wd.map {w : List Nat} (h : Wd w) {f : Nat → Nat} (r : Rn w f) : Wd (w.map f) := by
  refine ⟨fun c m => ?_, fun d _ => ?_, by rw [List.length_map]; exact h.e⟩
  · obtain ⟨b, mb, rfl⟩ := List.mem_map.mp m
    exact r.l b mb
  · by_cases q : d ∈ w.map f
    · obtain ⟨b, mb, rfl⟩ := List.mem_map.mp q
      rw [count_map fun d md e => r.inj md mb e]
      exact h.b b (h.a b mb)
    · exact .inl (List.count_eq_zero.mpr q)
theorem ssort_map {w : List Nat} {f : Nat → Nat} (r : Rn w f) : ssort (w.map f) = (ssort w).map f := by
  refine lt_uniq (ssort_lt _) (List.pairwise_map.mpr ((ssort_lt w).imp_of_mem fun {a b} ma mb l => r.m a ((mem_ssort a w).mp ma) b ((mem_ssort b w).mp mb) l)) fun x => ?_
  rw [mem_ssort, List.mem_map, List.mem_map]
  exact ⟨fun ⟨a, ma, e⟩ => ⟨a, (mem_ssort a w).mpr ma, e⟩, fun ⟨a, ma, e⟩ => ⟨a, (mem_ssort a w).mp ma, e⟩⟩
theorem sp_map {w : List Nat} (h : Wd w) {f : Nat → Nat} (r : Rn w f) {c : Nat} (m : c ∈ w) : sp (w.map f) (f c) = sp w c := by
  refine sp_is (h.map r) (fp_lt h m) ?_ ?_
  · rw [List.getElem?_map, (place_iff h m _).mpr (.inl rfl)]; rfl
  · rw [List.getElem?_map, (place_iff h m _).mpr (.inr rfl)]; rfl
theorem SS_map {w : List Nat} (h : Wd w) {f : Nat → Nat} (r : Rn w f) : SS (w.map f) = SS w := by
  unfold SS
  rw [ssort_map r, List.map_map]
  exact List.map_congr_left fun c m => sp_map h r ((mem_ssort c w).mp m)
theorem lr_map {w : List Nat} (h : Wd w) {f : Nat → Nat} {s : Sp} (m : s ∈ SS w) : lr (w.map f) s = f (lr w s) := by
  have hl := SS_lt h m
  have h1 : s.1 < w.length := by omega
  unfold lr ch
  simp [List.getD, h1]
theorem lt_mapL {w : List Nat} {f : Nat → Nat} (r : Rn w f) : ∀ {a b : List Nat}, (∀ c ∈ a, c ∈ w) → (∀ c ∈ b, c ∈ w) → (a.map f < b.map f ↔ a < b)
  | [], [], _, _ => by simp
  | [], _ :: _, _, _ => by simp
  | _ :: _, [], _, _ => by simp
  | x :: a, y :: b, ha, hb => by
    have ih := lt_mapL r (a := a) (b := b) (fun c m => ha c (by simp [m])) fun c m => hb c (by simp [m])
    rw [List.map_cons, List.map_cons, List.cons_lt_cons_iff, List.cons_lt_cons_iff, ih, r.lt (ha x (by simp)) (hb y (by simp))]
    have : f x = f y ↔ x = y := ⟨r.inj (ha x (by simp)) (hb y (by simp)), fun e => by rw [e]⟩
    rw [this]
theorem eq_mapL {w : List Nat} {f : Nat → Nat} (r : Rn w f) : ∀ {a b : List Nat}, (∀ c ∈ a, c ∈ w) → (∀ c ∈ b, c ∈ w) → (a.map f = b.map f ↔ a = b)
  | [], [], _, _ => by simp
  | [], _ :: _, _, _ => by simp
  | _ :: _, [], _, _ => by simp
  | x :: a, y :: b, ha, hb => by
    have ih := eq_mapL r (a := a) (b := b) (fun c m => ha c (by simp [m])) fun c m => hb c (by simp [m])
    have : f x = f y ↔ x = y := ⟨r.inj (ha x (by simp)) (hb y (by simp)), fun e => by rw [e]⟩
    rw [List.map_cons, List.map_cons, List.cons.injEq, List.cons.injEq, ih, this]
theorem nins_map {w : List Nat} {f : Nat → Nat} (r : Rn w f) {c : Nat} (mc : c ∈ w) : ∀ {l : List Nat}, (∀ d ∈ l, d ∈ w) → nsort.nins (f c) (l.map f) = (nsort.nins c l).map f
  | [], _ => rfl
  | b :: l, h => by
    have ih := nins_map r mc (l := l) fun d m => h d (by simp [m])
    rw [List.map_cons, nsort.nins, nsort.nins]
    have := r.lt (h b (by simp)) mc
    by_cases q : b < c
    · rw [if_pos (this.mpr q), if_pos q, ih]; rfl
    · rw [if_neg (fun z => q (this.mp z)), if_neg q]; rfl
theorem nsort_map {w : List Nat} {f : Nat → Nat} (r : Rn w f) : ∀ {l : List Nat}, (∀ d ∈ l, d ∈ w) → nsort (l.map f) = (nsort l).map f
  | [], _ => rfl
  | b :: l, h => by
    have ih := nsort_map r (l := l) fun d m => h d (by simp [m])
    rw [List.map_cons, nsort, nsort, ih]
    exact nins_map r (h b (by simp)) fun d m => h d (List.mem_cons_of_mem _ ((nsort_perm l).mem_iff.mp m))
theorem side_map {w : List Nat} (h : Wd w) {f : Nat → Nat} (r : Rn w f) : side (w.map f) = (side w).map f := by
  unfold side
  rw [SS_map h r, ← nsort_map r fun d m => by
    obtain ⟨s, ms, rfl⟩ := List.mem_map.mp m
    exact lr_mem h (STB_mem ms), List.map_map]
  congr 1
  exact List.map_congr_left fun s m => lr_map h (STB_mem m)
theorem side_mem {w : List Nat} (h : Wd w) {c : Nat} (m : c ∈ side w) : c ∈ w := by
  have := (nsort_perm _).mem_iff.mp m
  obtain ⟨s, ms, rfl⟩ := List.mem_map.mp this
  exact lr_mem h (STB_mem ms)
end W_bandhems_k59_seats_gaps_and_stabs

/-! K59V: the law's own spans; letters changed. -/
namespace W_bandhems_k59_seats_gaps_and_stabs
open G
theorem snoc_ind {α : Type} {P : List α → Prop} (h0 : P []) (h1 : ∀ l a, P l → P (l ++ [a])) (l : List α) : P l := by
  have key : ∀ l : List α, P l.reverse := fun l => by
    induction l with
    | nil => exact h0
    | cons a l ih => rw [List.reverse_cons]; exact h1 _ _ ih
  have := key l.reverse
  rwa [List.reverse_reverse] at this
/-- the letters as they come first -/
def fcl (w : List Nat) : List Nat := w.foldl (fun acc c => if c ∈ acc then acc else acc ++ [c]) []
theorem fcl_snoc (w : List Nat) (c : Nat) : fcl (w ++ [c]) = if c ∈ fcl w then fcl w else fcl w ++ [c] := by
  unfold fcl
  rw [List.foldl_append]
  rfl
theorem mem_fcl (c : Nat) : ∀ w : List Nat, c ∈ fcl w ↔ c ∈ w := snoc_ind (by simp [fcl]) fun w d ih => by
  rw [fcl_snoc, List.mem_append, List.mem_singleton]
  by_cases q : d ∈ fcl w
  · rw [if_pos q, ih]
    refine ⟨.inl, fun z => z.elim id fun e => ?_⟩
    rw [e]
    by_cases k : c = d
    · rw [← k]; exact ih.mp (by rw [k]; exact q)
    · exact absurd e k
  · rw [if_neg q, List.mem_append, List.mem_singleton, ih]
theorem fcl_nd : ∀ w : List Nat, (fcl w).Nodup := snoc_ind (by simp [fcl]) fun w d ih => by
  rw [fcl_snoc]
  by_cases q : d ∈ fcl w
  · rw [if_pos q]; exact ih
  · rw [if_neg q]
    refine List.nodup_append.mpr ⟨ih, by simp, fun a ma b mb => ?_⟩
    have : b = d := by simpa using mb
    rw [this]
    exact fun e => q (by rw [← e]; exact ma)
theorem posn_app (c : Nat) : ∀ (u v : List Nat) (k : Nat), posn c (u ++ v) k = posn c u k ++ posn c v (k + u.length)
  | [], v, k => by simp [posn]
  | d :: u, v, k => by
    have ih := posn_app c u v (k + 1)
    have : k + 1 + u.length = k + (u.length + 1) := by omega
    rw [List.cons_append, posn, posn, ih, List.length_cons, this]
    split <;> rfl
theorem posn_snoc (c d : Nat) (w : List Nat) : posn c (w ++ [d]) 0 = posn c w 0 ++ if d = c then [w.length] else [] := by
  rw [posn_app]
  simp [posn]
theorem posn_nil {c : Nat} {w : List Nat} (h : c ∉ w) : posn c w 0 = [] := by
  have := posn_len c w 0
  rw [List.count_eq_zero.mpr h] at this
  exact List.length_eq_zero_iff.mp this
def spT (w : List Nat) (c : Nat) : D := .tup ((posn c w 0).map nI)
def spK (w : List Nat) : List (DK × D) := (fcl w).map fun c => (.s [c], spT w c)
theorem spK_get (u : List Nat) (c : Nat) : cGet2 (.dic (spK u)) (.str [c]) (.tup []) = some (spT u c) := by
  show some ((lookK (spK u) (.s [c])).getD (.tup [])) = _
  by_cases q : c ∈ fcl u
  · have := lookK_mp (fun c => DK.s [c]) (spT u) (x := c) (xs := fcl u) q fun y _ e => by
      injection e with e
      injection e
    unfold spK
    rw [this]; rfl
  · have : lookK (spK u) (.s [c]) = none := lookK_none fun p m e => by
      obtain ⟨d, md, rfl⟩ := List.mem_map.mp m
      injection e with e
      injection e with e
      exact q (by rw [← e]; exact md)
    rw [this, spT, posn_nil fun z => q ((mem_fcl c u).mpr z)]
    rfl
theorem spK_put (u : List Nat) (c : Nat) : putD (spK u) (.s [c]) (spT (u ++ [c]) c) = spK (u ++ [c]) := by
  have same : ∀ d, d ≠ c → spT (u ++ [c]) d = spT u d := fun d ne => by
    unfold spT
    rw [posn_snoc, if_neg fun e => ne e.symm, List.append_nil]
  by_cases q : c ∈ fcl u
  · have h1 : fcl (u ++ [c]) = fcl u := by rw [fcl_snoc, if_pos q]
    unfold spK putD
    rw [h1, if_pos (List.any_eq_true.mpr ⟨(.s [c], spT u c), List.mem_map.mpr ⟨c, q, rfl⟩, by simp⟩), List.map_map]
    refine List.map_congr_left fun d md => ?_
    by_cases e : d = c
    · subst e
      simp
    · have : (DK.s [d]) ≠ DK.s [c] := fun z => e (by injection z with z; injection z)
      simp [this, same d e]
  · have h1 : fcl (u ++ [c]) = fcl u ++ [c] := by rw [fcl_snoc, if_neg q]
    rw [putD_new fun p m e => by
      obtain ⟨d, md, rfl⟩ := List.mem_map.mp m
      injection e with e
      injection e with e
      exact q (by rw [← e]; exact md)]
    unfold spK
    rw [h1, List.map_append]
    congr 1
    refine List.map_congr_left fun d md => ?_
    rw [same d fun e => q (by rw [← e]; exact md)]
theorem fcl_len (w : List Nat) : (fcl w).length ≤ w.length := nd_len (fcl_nd w) fun x m => (mem_fcl x w).mp m
theorem posn_le (c : Nat) (w : List Nat) : (posn c w 0).length ≤ w.length := by
  rw [posn_len]; exact List.count_le_length
theorem law_spans_ok (w : List Nat) (hw : w.length ≤ 1000) : ap m__law_spans [.str w] = some (.di (spK w)) := by
  obtain ⟨ρ', e, o, rfl⟩ := forF_rg (h := hName 2) (b := l__law_spans_1) (lo := 0) (n := w.length) (ρ := [S' w, .v (.di []), .no]) (fun i ρ => ∃ o, ρ = [S' w, .v (.di (spK (w.take i))), lp o]) ⟨none, rfl⟩ (by
    rintro i hi _ ⟨o, rfl⟩
    have e1 := ix_str hi hw
    have hg : w[i] = ch w i := by simp [ch, List.getD, hi]
    have e2 := spK_get (w.take i) (ch w i)
    have e3 := spK_put (w.take i) (ch w i)
    have l1 := posn_le (ch w i) (w.take i)
    have l2 := fcl_len (w.take i)
    have l3 : (w.take i).length = i := by rw [List.length_take]; omega
    rw [l3] at l1 l2
    have e4 : spT (w.take i ++ [ch w i]) (ch w i) = .tup ((posn (ch w i) (w.take i) 0).map nI ++ [.int i]) := by
      unfold spT
      rw [posn_snoc, if_pos rfl, l3, List.map_append]
      rfl
    rw [take_snoc hi, hg]
    have l4 : (spK (w.take i)).length ≤ i := by rw [spK, List.length_map]; exact l2
    rw [e4] at e3
    have e5 : spT (w.take i) (ch w i) = .tup ((posn (ch w i) (w.take i) 0).map nI) := rfl
    rw [e5] at e2
    refine ⟨[S' w, .v (.di (spK (w.take i))), I' i], [S' w, .v (.di (spK (w.take i ++ [ch w i]))), I' i], by simp, .inl ?_, some (.int i), rfl⟩
    rw [← e3]
    have l5 : ((posn (ch w i) (w.take i) 0).map nI).length + 1 ≤ big := by rw [List.length_map, big_is]; omega
    have l6 : (spK (w.take i)).length < big := by rw [big_is]; omega
    generalize (posn (ch w i) (w.take i) 0).map nI = ps at e2 l5
    generalize spK (w.take i) = kvs at e2 l6
    have g1 : 1 ≤ big := by decide
    have g0 : 0 ≤ big := by decide
    simp [-cIx_str, l__law_spans_1, e1, e2, g1, g0, l5, l6, isLs_ap, isDi_ap, putAt_ap])
  rw [List.take_length] at e
  have h1 : rgOk (w.length : Int) = true := rgOk_nat (by omega)
  have h2 : w.length ≤ big := by rw [big_is]; omega
  rw [ap, m__law_spans, runD_ap]
  simp [b__law_spans, h1, h2, e]
theorem span_at {w : List Nat} (h : Wd w) {c : Nat} (m : c ∈ w) : cIx (.dic (spK w)) (.str [c]) = some (endT w c) := by
  show lookK (spK w) (.s [c]) = _
  have := lookK_mp (fun c => DK.s [c]) (spT w) (x := c) (xs := fcl w) ((mem_fcl c w).mpr m) fun y _ e => by
    injection e with e
    injection e
  unfold spK
  rw [this, spT, two_places h m]
  rfl
theorem own_ok {w : List Nat} (hw : w.length < 63) : ap m__law_own [.str w] = some (.ls (sgs (ssort w))) := by
  rw [ap, m__law_own, runD_ap]
  simp [b__law_own, hw]
  rfl
/-! sorted letters -/
theorem nins_le (c : Nat) : ∀ {l : List Nat}, l.Pairwise (· ≤ ·) → (nsort.nins c l).Pairwise (· ≤ ·)
  | [], _ => List.pairwise_singleton _ _
  | b :: l, h => by
    have h' := List.pairwise_cons.mp h
    rw [nsort.nins]
    by_cases q : b < c
    · rw [if_pos q]
      refine List.pairwise_cons.mpr ⟨fun x mx => ?_, nins_le c h'.2⟩
      rcases List.mem_cons.mp ((nins_perm c l).mem_iff.mp mx) with e | m
      · omega
      · exact h'.1 x m
    · rw [if_neg q]
      refine List.pairwise_cons.mpr ⟨fun x mx => ?_, h⟩
      rcases List.mem_cons.mp mx with e | m
      · omega
      · have := h'.1 x m
        omega
theorem nsort_le : ∀ l : List Nat, (nsort l).Pairwise (· ≤ ·)
  | [] => List.Pairwise.nil
  | c :: l => nins_le c (nsort_le l)
theorem nsort_lt {l : List Nat} (h : l.Nodup) : (nsort l).Pairwise (· < ·) := by
  have h2 : (nsort l).Nodup := (nsort_perm l).nodup_iff.mpr h
  exact ((nsort_le l).and h2).imp fun {a b} k => by have := k.1; have := k.2; omega
/-- the letter that takes another one's place -/
def rl (own some : List Nat) (c : Nat) : Nat := some.getD (own.idxOf c) 0
theorem rl_at {own some : List Nat} (h : own.Nodup) (hl : some.length = own.length) {i : Nat} (hi : i < own.length) : rl own some own[i] = some[i] := by
  unfold rl
  have : own.idxOf own[i] = i := h.idxOf_getElem i hi
  rw [this]
  simp [List.getD, hl, hi]
theorem ssort_nd (w : List Nat) : (ssort w).Nodup := (ssort_lt w).imp fun {a b} h => by omega
def rnK (own : List Nat) (f : Nat → Nat) : List (DK × D) := own.map fun c => (.s [c], .str [f c])
theorem rnK_at {own : List Nat} (f : Nat → Nat) {c : Nat} (m : c ∈ own) : cIx (.dic (rnK own f)) (.str [c]) = some (.str [f c]) := by
  show lookK (rnK own f) (.s [c]) = _
  exact lookK_mp (fun c => DK.s [c]) (fun c => D.str [f c]) (x := c) (xs := own) m fun y _ e => by
    injection e with e
    injection e
end W_bandhems_k59_seats_gaps_and_stabs

/-! K59W: seats by own going, letters open at a gap, the fullest gap. -/
namespace W_bandhems_k59_seats_gaps_and_stabs
open G
theorem lf_congr {l m : List Nat} (h : ∀ x, x ∈ l ↔ x ∈ m) : lf l = lf m := (lf_uniq (fun z => lf_no l ((h _).mpr z)) fun j hj => (h j).mp (lf_all l j hj)).symm
noncomputable def stc (w : List Nat) (c : Nat) : Nat := seat w (sp w c)
theorem si_stc (w : List Nat) : si w = (ssort w).map fun c => (stc w c : Int) := by
  rw [si_is, SS, List.map_map]
  rfl
theorem SSl {w : List Nat} : (SS w).length ≤ w.length := by
  rw [SS, List.length_map]
  exact ssort_len w
theorem stc_lt {w : List Nat} (h : Wd w) {c : Nat} (m : c ∈ w) : stc w c < w.length := by
  obtain ⟨xs, h1, h2, _⟩ := seat_lot h (sp_SS m)
  have := nd_len h1.n h1.s
  have := SSl (w := w)
  unfold stc
  omega
/-- the seat of a letter, by those that are open where it begins -/
theorem stc_is {w : List Nat} (h : Wd w) {c : Nat} (m : c ∈ w) {T : List Nat} (hT : ∀ d, d ∈ T ↔ d ∈ w ∧ fp w d < fp w c ∧ fp w c < lq w d) : lf (T.map (stc w)) = stc w c := by
  obtain ⟨O1, _, _, h3, h4, h5⟩ := seat_at h (sp_SS m)
  unfold stc
  rw [h5]
  refine lf_congr fun x => ?_
  rw [List.mem_map, List.mem_map]
  constructor
  · rintro ⟨d, md, rfl⟩
    obtain ⟨m1, m2, m3⟩ := (hT d).mp md
    exact ⟨sp w d, List.mem_filter.mpr ⟨h4 _ (sp_SS m1) m2, (op_iff _ _).mpr ⟨Nat.le_of_lt m2, m3⟩⟩, rfl⟩
  · rintro ⟨s, ms, rfl⟩
    obtain ⟨m1, m2⟩ := List.mem_filter.mp ms
    obtain ⟨m3, m4⟩ := h3 s m1
    have m5 := (op_iff _ _).mp m2
    obtain ⟨d, md, rfl⟩ := mem_SS m3
    exact ⟨d, (hT d).mpr ⟨md, m4, m5.2⟩, rfl⟩
/-- the first that is free -/
theorem first_free (ns : List Nat) {n : Nat} (h : lf ns < n) : ((List.range n).filter fun k => !decide (k ∈ ns)).head? = some (lf ns) := by
  have e : List.range n = List.range (lf ns) ++ lf ns :: (List.range' (lf ns + 1) (n - lf ns - 1)) := by
    have : List.range n = List.range' 0 n := List.range_eq_range'
    rw [this, List.range_eq_range']
    have e2 : n = lf ns + ((n - lf ns - 1) + 1) := by omega
    conv => lhs; rw [e2]
    rw [← List.range'_append_1, List.range'_succ]
    simp
  rw [e, List.filter_append, List.filter_cons, if_pos (by simpa using lf_no ns)]
  have : (List.range (lf ns)).filter (fun k => !decide (k ∈ ns)) = [] := List.filter_eq_nil_iff.mpr fun k mk => by
    simpa using lf_all ns k (List.mem_range.mp mk)
  rw [this]
  rfl
def stK (w : List Nat) (f : Nat → Nat) (T : List Nat) : List (DK × D) := T.map fun c => (.s [c], nI (f c))
theorem stK_look {w : List Nat} {f : Nat → Nat} {T : List Nat} {c : Nat} (m : c ∈ T) : lookK (stK w f T) (.s [c]) = some (nI (f c)) := lookK_mp (fun c => DK.s [c]) (fun c => nI (f c)) (x := c) (xs := T) m fun y _ e => by
  injection e with e
  injection e
theorem stK_none {w : List Nat} {f : Nat → Nat} {T : List Nat} {c : Nat} (m : c ∉ T) : ∀ p ∈ stK w f T, p.1 ≠ .s [c] := fun p mp e => by
  obtain ⟨d, md, rfl⟩ := List.mem_map.mp mp
  injection e with e
  injection e with e
  exact m (by rw [← e]; exact md)
theorem stK_put {w : List Nat} {f : Nat → Nat} {T : List Nat} {c : Nat} (m : c ∉ T) : putD (stK w f T) (.s [c]) (nI (f c)) = stK w f (T ++ [c]) := by
  rw [putD_new (stK_none m)]
  unfold stK
  rw [List.map_append]
  rfl
theorem stK_drop {w : List Nat} {f : Nat → Nat} {T : List Nat} {c : Nat} : dropD (stK w f T) (.s [c]) = stK w f (T.filter fun d => !decide (d = c)) := by
  unfold stK dropD
  rw [List.filter_map]
  congr 1
  refine List.filter_congr fun d _ => ?_
  by_cases q : d = c <;> simp [q]
theorem stK_vals {w : List Nat} {f : Nat → Nat} {T : List Nat} : (stK w f T).map (·.2) = (T.map f).map nI := by
  unfold stK
  rw [List.map_map, List.map_map]
  rfl
theorem cNi_nats (k : Nat) (ns : List Nat) : cNi (.int (k : Int)) (.lst (ns.map nI)) = some (.bl (!decide (k ∈ ns))) := by
  unfold cNi
  rw [cIn_nats]
  rfl
def lsO : Option (List D) → Sl
  | none => .no
  | some ns => .v (.ls ns)
theorem nd_short {T : List Nat} (hn : T.Nodup) (hs : ∀ c ∈ T, c ∈ LET) : T.length ≤ 12 := nd_len hn hs
theorem law_seats_ok {w : List Nat} (h : Wd w) : ap m__law_seats [.str w] = some (.p (.tup ((si w).map D.int))) := by
  have hw := h.e
  obtain ⟨ρ', e, T, F, o3, o4, _, _, hF, hTm, hFm, rfl⟩ := forF_rel (h := hName 3) (b := l__law_seats_2) (ds := sgs w) (ρ := [S' w, .v (.di []), .v (.di []), .no, .no, .no, .no])
    (fun i ρ => ∃ T F o3 o4, T.Nodup ∧ True ∧ F.Nodup ∧ (∀ d, d ∈ T ↔ d ∈ w ∧ fp w d < i ∧ i ≤ lq w d) ∧ (∀ d, d ∈ F ↔ d ∈ w ∧ fp w d < i) ∧ ρ = [S' w, .v (.di (stK w (stc w) T)), .v (.di (stK w (stc w) F)), lp o3, lsO o4, .no, .no]) ⟨[], [], none, none, List.nodup_nil, trivial, List.nodup_nil, fun d => by simp, fun d => by simp, rfl⟩ (by
    rintro i hi _ ⟨T, F, o3, o4, hT, _, hF, hTm, hFm, rfl⟩
    have hi' : i < w.length := by rwa [sgs_len] at hi
    have hg : (sgs w)[i] = .str [ch w i] := by simp [sgs, ch, List.getD, hi']
    rw [hg]
    have mc : ch w i ∈ w := ch_mem hi'
    have hpl := (place_iff h mc i).mp (get_ch hi')
    have hlt := fp_lt h mc
    have hne : ∀ d ∈ w, d ≠ ch w i → fp w d ≠ i ∧ lq w d ≠ i := fun d md ne => ⟨fun e => ne (by rw [← ch_fp h md, e]), fun e => ne (by rw [← ch_lq h md, e])⟩
    generalize ch w i = c at mc hpl hlt hne
    have hTl : T.length ≤ 12 := nd_short hT fun d md => h.a d ((hTm d).mp md).1
    have hFl : F.length ≤ 12 := nd_short hF fun d md => h.a d ((hFm d).mp md).1
    by_cases q : c ∈ T
    · have e1 := stK_look (w := w) (f := stc w) q
      have e2 := stK_drop (w := w) (f := stc w) (T := T) (c := c)
      refine ⟨[S' w, .v (.di (stK w (stc w) T)), .v (.di (stK w (stc w) F)), S' [c], lsO o4, .no, .no], [S' w, .v (.di (stK w (stc w) (T.filter fun d => !decide (d = c)))), .v (.di (stK w (stc w) F)), S' [c], lsO o4, .no, .no], by simp, .inl ?_, T.filter fun d => !decide (d = c), F, some (.str [c]), o4, hT.sublist List.filter_sublist, trivial, hF, fun d => ?_, fun d => ?_, rfl⟩
      · rw [← e2]
        generalize stK w (stc w) T = kvs at e1
        generalize stK w (stc w) F = fvs
        generalize lsO o4 = x4
        simp [l__law_seats_2, e1, isDi_ap]
      · have h1 := (hTm c).mp q
        rw [List.mem_filter, hTm d]
        by_cases qd : d = c
        · subst qd
          simp
          intro _ _
          omega
        · simp [qd]
          intro md
          have := hne d md qd
          omega
      · have h1 := (hTm c).mp q
        rw [hFm d]
        by_cases qd : d = c
        · subst qd
          constructor
          · rintro ⟨a, b⟩; exact ⟨a, by omega⟩
          · rintro ⟨a, b⟩; exact ⟨a, h1.2.1⟩
        · constructor
          · rintro ⟨a, b⟩; exact ⟨a, by omega⟩
          · rintro ⟨a, b⟩
            have := hne d a qd
            exact ⟨a, by omega⟩
    · have hfi : i = fp w c := by
        rcases hpl with e | e
        · exact e
        · exact absurd ((hTm c).mpr ⟨mc, by omega, by omega⟩) q
      have qF : c ∉ F := fun z => by have := ((hFm c).mp z).2; omega
      have e1 : lookK (stK w (stc w) T) (.s [c]) = none := lookK_none (stK_none q)
      have e3 := stK_put (w := w) (f := stc w) q
      have e4 := stK_put (w := w) (f := stc w) qF
      have hst : lf (T.map (stc w)) = stc w c := stc_is h mc fun d => by
        rw [hTm d]
        constructor
        · rintro ⟨a, b, c'⟩
          have : d ≠ c := fun e => q (by rw [← e]; exact (hTm d).mpr ⟨a, b, c'⟩)
          have := hne d a this
          exact ⟨a, by omega, by omega⟩
        · rintro ⟨a, b, c'⟩; exact ⟨a, by omega, by omega⟩
      have hff := first_free (T.map (stc w)) (n := w.length) (by rw [hst]; exact stc_lt h mc)
      rw [hst] at hff
      have hv := stK_vals (w := w) (f := stc w) (T := T)
      generalize hx4 : lsO o4 = x4
      have hx4' : x4 = .no ∨ ∃ ns, x4 = .v (.ls ns) := by
        cases o4 with
        | none => exact .inl hx4.symm
        | some ns => exact .inr ⟨ns, hx4.symm⟩
      have e5 := lcF_fp (own := [6]) (h := hName 6) (ifs := (bOf (eOp cNi (eVar 6) (eFrz (nListV (eVar 1)))))) (elt := e__law_seats_1) (ρ := [S' w, .v (.di (stK w (stc w) T)), .v (.di (stK w (stc w) F)), S' [c], x4, .no, .no])
        (fun k : Nat => nI k) (fun k => nI k) (fun k => !decide (k ∈ T.map (stc w))) (xs := List.range w.length) (by
        intro k hk
        have e6 := cNi_nats k (T.map (stc w))
        rw [← hv] at e6
        generalize stK w (stc w) T = kvs at e6
        refine ⟨[S' w, .v (.di kvs), .v (.di (stK w (stc w) F)), S' [c], x4, .no, I' k], [S' w, .v (.di kvs), .v (.di (stK w (stc w) F)), S' [c], x4, .no, I' k], by simp, ?_, fun _ => ⟨.val (nI k), [S' w, .v (.di kvs), .v (.di (stK w (stc w) F)), S' [c], x4, .no, I' k], by simp [e__law_seats_1], by simp, by simp [wipeS]⟩, fun _ => by simp [wipeS]⟩
        simp [-List.map_map, e6])
      rw [← rgD_mp] at e5
      generalize hL : (List.range w.length).filter (fun k => !decide (k ∈ T.map (stc w))) = L at e5 hff
      obtain ⟨L', rfl⟩ : ∃ L', L = stc w c :: L' := by
        cases L with
        | nil => cases hff
        | cons a b => cases hff; exact ⟨b, rfl⟩
      rw [List.map_cons] at e5
      have g1 : rgOk (w.length : Int) = true := rgOk_nat (by omega)
      have g2 : w.length ≤ big := by rw [big_is]; omega
      have g3 : (stK w (stc w) T).length < big := by rw [stK, List.length_map, big_is]; omega
      have g4 : (stK w (stc w) F).length < big := by rw [stK, List.length_map, big_is]; omega
      have g5 : 2 ≤ big := by decide
      have hTn : (T ++ [c]).Nodup := List.nodup_append.mpr ⟨hT, by simp, fun a ma b mb e => by
        have hb : b = c := by simpa using mb
        exact q (by rw [← hb, ← e]; exact ma)⟩
      have hFn : (F ++ [c]).Nodup := List.nodup_append.mpr ⟨hF, by simp, fun a ma b mb e => by
        have hb : b = c := by simpa using mb
        exact qF (by rw [← hb, ← e]; exact ma)⟩
      refine ⟨[S' w, .v (.di (stK w (stc w) T)), .v (.di (stK w (stc w) F)), S' [c], x4, .no, .no], [S' w, .v (.di (stK w (stc w) (T ++ [c]))), .v (.di (stK w (stc w) (F ++ [c]))), S' [c], .v (.ls (nI (stc w c) :: L'.map nI)), .no, .no], by simp, .inl ?_, T ++ [c], F ++ [c], some (.str [c]), some (nI (stc w c) :: L'.map nI), hTn, trivial, hFn, fun d => ?_, fun d => ?_, rfl⟩
      · rw [← e3, ← e4]
        generalize L'.map nI = ls at e5
        generalize stK w (stc w) T = kvs at e1 e5 g3
        generalize stK w (stc w) F = fvs at e5 g4
        generalize stc w c = sc at e5
        rcases hx4' with rfl | ⟨ns, rfl⟩
        · simp [l__law_seats_2, e1, isDi_ap, isLs_ap, g1, g2, rgD_length, wipeS, e5, back, g3, g4, g5]
        · simp [l__law_seats_2, e1, isDi_ap, isLs_ap, g1, g2, rgD_length, wipeS, e5, back, g3, g4, g5]
      · rw [List.mem_append, List.mem_singleton, hTm d]
        by_cases qd : d = c
        · subst qd
          constructor
          · intro _; exact ⟨mc, by omega, by omega⟩
          · intro _; exact .inr rfl
        · constructor
          · rintro (⟨a, b, c'⟩ | e)
            · have := hne d a qd
              exact ⟨a, by omega, by omega⟩
            · exact absurd e qd
          · rintro ⟨a, b, c'⟩
            have := hne d a qd
            exact .inl ⟨a, by omega, by omega⟩
      · rw [List.mem_append, List.mem_singleton, hFm d]
        by_cases qd : d = c
        · subst qd
          constructor
          · intro _; exact ⟨mc, by omega⟩
          · intro _; exact .inr rfl
        · constructor
          · rintro (⟨a, b⟩ | e)
            · exact ⟨a, by omega⟩
            · exact absurd e qd
          · rintro ⟨a, b⟩
            have := hne d a qd
            exact .inl ⟨a, by omega⟩)
  rw [sgs_len] at hFm
  have hall : ∀ c ∈ w, c ∈ F := fun c m => (hFm c).mpr ⟨m, fp_len h m⟩
  generalize hx4 : lsO o4 = x4 at e
  have e5 := lcF_mp (own := [5]) (h := hName 5) (ifs := bYes) (elt := e__law_seats_3) (ρ := [S' w, .v (.di (stK w (stc w) T)), .v (.di (stK w (stc w) F)), lp o3, x4, .no, .no]) (fun c => .str [c]) (fun c => nI (stc w c)) (xs := ssort w) (by
    intro c mc
    have e1 : cIx (.dic (stK w (stc w) F)) (.str [c]) = some (nI (stc w c)) := stK_look (hall c ((mem_ssort c w).mp mc))
    generalize stK w (stc w) F = fvs at e1
    exact ⟨[S' w, .v (.di (stK w (stc w) T)), .v (.di fvs), lp o3, x4, S' [c], .no], [S' w, .v (.di (stK w (stc w) T)), .v (.di fvs), lp o3, x4, S' [c], .no], .val (nI (stc w c)), [S' w, .v (.di (stK w (stc w) T)), .v (.di fvs), lp o3, x4, S' [c], .no], by simp, rfl, by simp [e__law_seats_3, e1], by simp, by simp [wipeS]⟩)
  have hs : (ssort w).map (fun c => D.str [c]) = sgs (ssort w) := rfl
  have hr : (ssort w).map (fun c => nI (stc w c)) = (si w).map D.int := by rw [si_stc, List.map_map]; rfl
  rw [hs, hr] at e5
  have e6 := own_ok (w := w) (by omega)
  have g1 : (sgs (ssort w)).length ≤ big := by have := ssort_len w; rw [sgs_len, big_is]; omega
  have g2 : w.length ≤ big := by rw [big_is]; omega
  have hsw : w.map (fun c => D.str [c]) = sgs w := rfl
  generalize sgs (ssort w) = ss at e5 e6 g1
  generalize (si w).map D.int = rs at e5
  generalize sgs w = ws at e hsw
  rw [ap, m__law_seats, runD_ap]
  simp [b__law_seats, seqD, hsw, e, e6, g1, wipeS, e5, back, cTuple]
/-! letters open at a gap -/
def opn (w : List Nat) (k : Nat) : List Nat := ((SS w).filter fun s => op s k).map (lr w)
theorem law_open_ok {w : List Nat} (h : Wd w) (k : Nat) : ap m__law_open [.str w, .int k] = some (.ls (sgs (opn w k))) := by
  have hw := h.e
  have hsp := fun {c : Nat} (m : c ∈ w) => span_at h m
  have e1 := law_spans_ok w (by omega)
  have e2 := own_ok (w := w) (by omega)
  generalize spK w = kvs at hsp e1
  have hl := SS_len h
  have e := lcF_fp (own := [3]) (h := hName 3) (ifs := (bOf (eChain cLe cLt (eIx (eIx (eVar 2) (eVar 3)) (eC (.int 0))) (eVar 1) (eIx (eIx (eVar 2) (eVar 3)) (eC (.int 1)))))) (elt := e__law_open_1) (ρ := [S' w, I' k, .v (.di kvs), .no]) (fun s : Sp => .str [lr w s]) (fun s => D.str [lr w s]) (fun s => op s k) (xs := SS w) (by
    intro s hs
    have e3 := hsp (lr_mem h hs)
    have hs1 : sp w (lr w s) = s := sp_lr h hs
    have he1 : endT w (lr w s) = .tup [.int s.1, .int s.2] := by
      unfold endT
      rw [show fp w (lr w s) = s.1 from congrArg Prod.fst hs1, show lq w (lr w s) = s.2 from congrArg Prod.snd hs1]
    rw [he1] at e3
    refine ⟨[S' w, I' k, .v (.di kvs), S' [lr w s]], [S' w, I' k, .v (.di kvs), S' [lr w s]], by simp, ?_, fun _ => ⟨.val (.str [lr w s]), [S' w, I' k, .v (.di kvs), S' [lr w s]], by simp [e__law_open_1], by simp, by simp [wipeS]⟩, fun _ => by simp [wipeS]⟩
    by_cases q : s.1 ≤ k
    · simp [e3, op, q]
    · simp [e3, op, q])
  have h1 : (SS w).map (fun s => D.str [lr w s]) = sgs (ssort w) := by
    rw [← SS_lr h, sgs, List.map_map]; rfl
  have h2 : ((SS w).filter fun s => op s k).map (fun s => D.str [lr w s]) = sgs (opn w k) := by
    rw [opn, sgs, List.map_map]; rfl
  rw [h1, h2] at e
  have g1 : (sgs (ssort w)).length ≤ big := by have := ssort_len w; rw [sgs_len, big_is]; omega
  generalize sgs (ssort w) = ss at e e2 g1
  generalize sgs (opn w k) = os at e
  rw [ap, m__law_open, runD_ap]
  simp [b__law_open, e1, e2, seqD, g1, wipeS, e, back]
/-! the fullest gap -/
def cnt (w : List Nat) (k : Nat) : Nat := ((SS w).filter fun s => op s k).length
theorem minR_is {m : D} : ∀ {ds : List D} {d : D}, m ∈ d :: ds → (∀ y ∈ d :: ds, y ≠ m → D.lt m y = true ∧ D.lt y m = false) → D.lt m m = false → minR d ds = m
  | [], d, hm, _, _ => by
    have : m = d := by simpa using hm
    rw [this]; rfl
  | y :: ds, d, hm, hl, hmm => by
    have h1 : minR d (y :: ds) = minR (if D.lt y d then y else d) ds := rfl
    rw [h1]
    refine minR_is ?_ (fun z mz ne => ?_) hmm
    · by_cases q : m = d
      · have : D.lt y d = false := by
          by_cases qy : y = m
          · rw [qy, ← q]; exact hmm
          · rw [← q]; exact (hl y (by simp) qy).2
        rw [this, q]
        simp
      · by_cases qy : m = y
        · have : D.lt y d = true := by rw [← qy]; exact (hl d (by simp) fun e => q e.symm).1
          rw [this, qy]
          simp
        · rcases List.mem_cons.mp hm with e | e
          · exact absurd e q
          · rcases List.mem_cons.mp e with e | e
            · exact absurd e qy
            · exact List.mem_cons_of_mem _ e
    · rcases List.mem_cons.mp mz with e | e
      · refine hl z ?_ ne
        rw [e]
        split <;> simp
      · exact hl z (by simp [e]) ne
theorem fgv_is {w : List Nat} {j : Nat} (hj : j < w.length - 1) (hge : ∀ k, k < w.length - 1 → cnt w k ≤ cnt w j) (hlt : ∀ k, k < j → cnt w k < cnt w j) : fgv (SS w) w.length = j := by
  have hmem : prG (SS w) j ∈ (List.range (w.length - 1)).map (prG (SS w)) := List.mem_map.mpr ⟨j, List.mem_range.mpr hj, rfl⟩
  have hl : ∀ y ∈ (List.range (w.length - 1)).map (prG (SS w)), y ≠ prG (SS w) j → D.lt (prG (SS w) j) y = true ∧ D.lt y (prG (SS w) j) = false := fun y my ne => by
    obtain ⟨k, mk, rfl⟩ := List.mem_map.mp my
    have hk := List.mem_range.mp mk
    have h1 := hge k hk
    have h2 : k < j → cnt w k < cnt w j := hlt k
    have hkj : k ≠ j := fun e => ne (by rw [e])
    unfold cnt at h1 h2
    simp only [prG, D.lt, D.e1, D.l1]
    generalize ((SS w).filter fun s => op s j).length = a at h1 h2
    generalize ((SS w).filter fun s => op s k).length = b at h1 h2
    by_cases q : a = b
    · subst q
      have : ¬ k < j := fun z => by have := h2 z; omega
      have q1 : ¬ (j : Int) = k := by omega
      have q2 : ¬ (k : Int) = j := by omega
      simp [q1, q2]
      omega
    · have q1 : ¬ (0 : Int) - a = 0 - b := by omega
      have q2 : ¬ (0 : Int) - b = 0 - a := by omega
      have q3 : ¬ b = a := fun e => q e.symm
      simp [q, q3]
      rw [if_neg (by omega), if_neg (by omega)]
      omega
  have hmm : D.lt (prG (SS w) j) (prG (SS w) j) = false := by simp [prG, D.lt, D.e1]
  unfold fgv
  generalize (List.range (w.length - 1)).map (prG (SS w)) = l at hmem hl
  cases l with
  | nil => cases hmem
  | cons d ds =>
    show sec (minR d ds) = j
    rw [minR_is hmem hl hmm]
    rfl
theorem idx_first (f : Nat → Int) (m : Int) : ∀ (n lo : Nat), (∃ k, lo ≤ k ∧ k < lo + n ∧ f k = m) → ∃ j, lo ≤ j ∧ j < lo + n ∧ f j = m ∧ (∀ k, lo ≤ k → k < j → f k ≠ m) ∧ idxE (.int m) ((List.range' lo n).map fun k => D.int (f k)) = some (j - lo)
  | 0, lo, ⟨k, h1, h2, _⟩ => by omega
  | n + 1, lo, ⟨k, h1, h2, h3⟩ => by
    rw [List.range'_succ, List.map_cons]
    by_cases q : f lo = m
    · refine ⟨lo, Nat.le_refl _, by omega, q, fun k a b => by omega, ?_⟩
      simp [idxE, D.eq, q]
    · have hk : lo ≠ k := fun e => q (by rw [e]; exact h3)
      obtain ⟨j, a, b, c, d, e⟩ := idx_first f m n (lo + 1) ⟨k, by omega, by omega, h3⟩
      refine ⟨j, by omega, by omega, c, fun k' x y => ?_, ?_⟩
      · by_cases z : k' = lo
        · rw [z]; exact q
        · exact d k' (by omega) y
      · rw [idxE, e]
        have : D.eq (D.int (f lo)) (D.int m) = false := by simp [D.eq, q]
        rw [this]
        simp
        omega
theorem flL_ints {α : Type} (f : α → Int) : ∀ xs : List α, flL (xs.map fun x => D.int (f x)) = true
  | [] => rfl
  | x :: xs => flL_ints f xs
theorem full_is {w : List Nat} (h : Wd w) (hn : 2 ≤ w.length) : ∃ j : Nat, j < w.length - 1 ∧ fgv (SS w) w.length = j ∧ (∀ k, k < w.length - 1 → cnt w k ≤ cnt w j) ∧ maxI (cnt w 0) ((List.range' 1 (w.length - 2)).map fun k => (cnt w k : Int)) = cnt w j ∧ idxE (.int (cnt w j : Nat)) ((List.range (w.length - 1)).map fun k => D.int (cnt w k : Nat)) = some j := by
  obtain ⟨n, hn2⟩ : ∃ n, w.length - 1 = n + 1 := ⟨w.length - 2, by omega⟩
  have hn3 : w.length - 2 = n := by omega
  rw [hn3]
  have hr : List.range (n + 1) = 0 :: List.range' 1 n := by
    rw [List.range_eq_range', List.range'_succ]
  have h1 := maxI_mem (cnt w 0 : Int) ((List.range' 1 n).map fun k => (cnt w k : Int))
  have h2 := maxI_ge (cnt w 0 : Int) ((List.range' 1 n).map fun k => (cnt w k : Int))
  generalize hM : maxI (cnt w 0 : Int) ((List.range' 1 n).map fun k => (cnt w k : Int)) = M at h1 h2
  have e0 : (cnt w 0 : Int) :: (List.range' 1 n).map (fun k => (cnt w k : Int)) = (List.range (n + 1)).map fun k => (cnt w k : Int) := by rw [hr]; rfl
  rw [e0] at h1 h2
  obtain ⟨k0, mk0, ek0⟩ := List.mem_map.mp h1
  have hk0 := List.mem_range.mp mk0
  obtain ⟨j, _, hj, hjM, hno, hidx⟩ := idx_first (fun k => (cnt w k : Int)) M (n + 1) 0 ⟨k0, Nat.zero_le _, by omega, ek0⟩
  have hge : ∀ k, k < w.length - 1 → cnt w k ≤ cnt w j := fun k hk => by
    have := h2 _ (List.mem_map.mpr ⟨k, List.mem_range.mpr (by omega), rfl⟩)
    have hjM' : (cnt w j : Int) = M := hjM
    omega
  have hj' : j < w.length - 1 := by omega
  refine ⟨j, hj', fgv_is hj' hge fun k hk => ?_, hge, hjM.symm, ?_⟩
  · have h3 := hno k (Nat.zero_le _) hk
    have h4 := hge k (by omega)
    have hjM' : (cnt w j : Int) = M := hjM
    have h3' : ¬ (cnt w k : Int) = M := h3
    omega
  · rw [hn2, List.range_eq_range']
    have hjM' : (cnt w j : Int) = M := hjM
    rw [hjM']
    exact hidx
theorem law_gap_ok {w : List Nat} (h : Wd w) (hn : 2 ≤ w.length) : ap m__law_gap [.str w] = some (.p (.int (fgv (SS w) w.length))) := by
  have hw := h.e
  obtain ⟨j, hj, e1, hge, e2, e3⟩ := full_is h hn
  have e := lcF_mp (own := [2]) (h := hName 2) (ifs := bYes) (elt := e__law_gap_1) (ρ := [S' w, .no, .no]) (fun k : Nat => .int k) (fun k => D.int (cnt w k : Nat)) (xs := List.range (w.length - 1)) (by
    intro k hk
    have e4 := law_open_ok h k
    have hl : (sgs (opn w k)).length = cnt w k := by rw [sgs_len, opn, List.length_map]; rfl
    generalize sgs (opn w k) = os at e4 hl
    exact ⟨[S' w, .no, I' k], [S' w, .no, I' k], .val (.int (cnt w k : Nat)), [S' w, .no, I' k], by simp, rfl, by simp [e__law_gap_1, e4, hl], by simp, by simp [wipeS]⟩)
  rw [← rgD_mp] at e
  have hrg : rgOk ((w.length : Int) - 1) = true := rgOk_of (by omega)
  have hnn : ((w.length : Int) - 1).toNat = w.length - 1 := by omega
  have hb1 : w.length ≤ big := by rw [big_is]; omega
  have hb2 : (rgD 0 (w.length - 1)).length ≤ big := by rw [rgD_length, big_is]; omega
  obtain ⟨n, hn2⟩ : ∃ n, w.length - 1 = n + 1 := ⟨w.length - 2, by omega⟩
  have hn3 : w.length - 2 = n := by omega
  rw [hn3] at e2
  have hr : (List.range (w.length - 1)).map (fun k => D.int (cnt w k : Nat)) = D.int (cnt w 0 : Nat) :: ((List.range' 1 n).map fun k => (cnt w k : Int)).map D.int := by
    rw [hn2, List.range_eq_range', List.range'_succ, List.map_cons, List.map_map]
    rfl
  have e5 := cBest_max (cnt w 0 : Nat) ((List.range' 1 n).map fun k => (cnt w k : Int))
  rw [← hr, e2] at e5
  have hlen : ((List.range (w.length - 1)).map fun k => D.int (cnt w k : Nat)).length = n + 1 := by rw [List.length_map, List.length_range, hn2]
  have hfl := flL_ints (fun k => (cnt w k : Int)) (List.range (w.length - 1))
  have e6 : mIdx ((List.range (w.length - 1)).map fun k => D.int (cnt w k : Nat)) [.int (cnt w j : Nat)] = some (.int (j : Nat), (List.range (w.length - 1)).map fun k => D.int (cnt w k : Nat)) := by
    have hd : D.fl (.int (cnt w j : Nat)) = true := rfl
    simp only [mIdx, hd, hfl, Bool.and_self, if_true, e3, Option.map_some]
  rw [e1]
  generalize (List.range (w.length - 1)).map (fun k => D.int (cnt w k : Nat)) = rs at e e5 e6 hlen
  have hpos : (0 : Int) < (n : Int) + 1 := by omega
  rw [ap, m__law_gap, runD_ap]
  simp [b__law_gap, hb1, hrg, hnn, hb2, wipeS, e, back, hlen, hpos, isLs_ap, e5, e6]
theorem Wd.nil : Wd [] := ⟨fun c m => (nomatch m), fun c _ => .inl rfl, Nat.zero_le _⟩
theorem law_gap_nil : ap m__law_gap [.str []] = some (.p .non) := by
  have hrg : rgOk (-1) = true := rgOk_of (by decide)
  have hr : rgD 0 0 = [] := rfl
  rw [ap, m__law_gap, runD_ap]
  simp [b__law_gap, hrg, rgD_length, wipeS, lcF, back, hr]
theorem full_nil : ap m_fullest_gap [.str []] = some (.p .non) := by
  have h2 := cEq_str (s := []) (t := []) (fun c m => nomatch m) (fun c m => nomatch m)
  have e : ap m_fullest_gap_by [.str []] = some (.p .non) := by
    rw [ap, m_fullest_gap_by, runD_ap]
    simp [b_fullest_gap_by, h2]
  rw [ap, m_fullest_gap, runD_ap]
  simp [b_fullest_gap, check_ok Wd.nil, e]
end W_bandhems_k59_seats_gaps_and_stabs

/-! K59X: what is asked of seats and the fullest gap. -/
namespace W_bandhems_k59_seats_gaps_and_stabs
open G
theorem same_int (k : Nat) (i : Int) : ap (m__law_same (k + 1)) [.int i, .int i] = some (.p (.bl true)) := by
  rw [ap, m__law_same, runD_ap]
  simp [b__law_same]
theorem same_non (k : Nat) : ap (m__law_same (k + 1)) [.non, .non] = some (.p (.bl true)) := by
  rw [ap, m__law_same, runD_ap]
  simp [b__law_same]
theorem same_str (k : Nat) {s : List Nat} (h : okS s) : ap (m__law_same (k + 1)) [.str s, .str s] = some (.p (.bl true)) := by
  rw [ap, m__law_same, runD_ap]
  simp [b__law_same, cEq_str h h]
theorem same_tup (k : Nat) {ds : List D} (hl : ds.length ≤ 1000) (h : ∀ d ∈ ds, ap (m__law_same k) [d, d] = some (.p (.bl true))) : ap (m__law_same (k + 1)) [.tup ds, .tup ds] = some (.p (.bl true)) := by
  have e := lcF_mp (own := [2]) (h := hName 2) (ifs := bYes) (elt := e__law_same_1 (m__law_same k)) (ρ := [.v (.p (.tup ds)), .v (.p (.tup ds)), .no]) (fun i : Nat => .int i) (fun i => .bl true) (xs := List.range ds.length) (by
    intro i hi
    rw [List.mem_range] at hi
    have e1 := h _ (List.getElem_mem hi)
    refine ⟨[.v (.p (.tup ds)), .v (.p (.tup ds)), I' i], [.v (.p (.tup ds)), .v (.p (.tup ds)), I' i], .val (.bl true), [.v (.p (.tup ds)), .v (.p (.tup ds)), I' i], by simp, rfl, ?_, by simp, by simp [wipeS]⟩
    simp [e__law_same_1, List.getElem?_eq_getElem hi, e1])
  rw [← rgD_mp] at e
  have e2 := cAll_map (fun _ : Nat => true) (List.range ds.length)
  have e3 : ((List.range ds.length).all fun _ => true) = true := by simp
  rw [e3] at e2
  generalize (List.range ds.length).map (fun _ => D.bl true) = bs at e e2
  have h1 : rgOk (ds.length : Int) = true := rgOk_nat (by omega)
  have h2 : ds.length ≤ big := by rw [big_is]; omega
  rw [ap, m__law_same, runD_ap]
  simp [b__law_same, h1, h2, rgD_length, wipeS, e, e2, back]
theorem same_ints (ns : List Int) (h : ns.length ≤ 1000) : ap (m__law_same 4) [.tup (ns.map D.int), .tup (ns.map D.int)] = some (.p (.bl true)) :=
  same_tup 3 (by rw [List.length_map]; exact h) fun d m => by
    obtain ⟨i, _, rfl⟩ := List.mem_map.mp m
    exact same_int 2 i
theorem Wd.two {w : List Nat} (h : Wd w) (hn : w ≠ []) : 2 ≤ w.length := by
  have hp := List.length_pos_iff.mpr hn
  have m := ch_mem (w := w) (i := 0) hp
  have := fp_lt h m
  have := lq_len h m
  omega
theorem max_first : ∀ {xs : List Sp}, xs ≠ [] → ∃ z ∈ xs, ∀ x ∈ xs, x.1 ≤ z.1
  | [], h => absurd rfl h
  | [a], _ => ⟨a, by simp, fun x m => by have : x = a := by simpa using m
                                         rw [this]; exact Nat.le_refl _⟩
  | a :: b :: l, _ => by
    obtain ⟨z, mz, hz⟩ := max_first (xs := b :: l) (by simp)
    by_cases q : z.1 ≤ a.1
    · refine ⟨a, by simp, fun x m => ?_⟩
      rcases List.mem_cons.mp m with e | m
      · rw [e]; exact Nat.le_refl _
      · exact Nat.le_trans (hz x m) q
    · refine ⟨z, by simp at mz ⊢; exact .inr mz, fun x m => ?_⟩
      rcases List.mem_cons.mp m with e | m
      · rw [e]; omega
      · exact hz x m
theorem cnt_lot {w : List Nat} (h : Wd w) (k : Nat) : Lot R2 (SS w) ((SS w).filter fun s => op s k) := ⟨(SS_nd h).sublist List.filter_sublist, fun x m => (List.mem_filter.mp m).1, fun x mx y my _ => by
  have a := (op_iff _ _).mp (List.mem_filter.mp mx).2
  have b := (op_iff _ _).mp (List.mem_filter.mp my).2
  unfold R2
  omega⟩
theorem cnt_top {w : List Nat} (h : Wd w) (hn : 2 ≤ w.length) {j : Nat} (hge : ∀ k, k < w.length - 1 → cnt w k ≤ cnt w j) : cnt w j = N2 w := by
  have h1 := (max2 h).ub _ (cnt_lot h j)
  obtain ⟨xs, hx, hl⟩ := (max2 h).ex
  have h2 : N2 w ≤ cnt w j := by
    by_cases q : xs = []
    · rw [q] at hl
      simp at hl
      omega
    · obtain ⟨z, mz, hz⟩ := max_first q
      have hop : ∀ x ∈ xs, op x z.1 = true := fun x mx => by
        have a := SS_lt h (hx.s x mx)
        refine (op_iff _ _).mpr ⟨hz x mx, ?_⟩
        by_cases e : z = x
        · rw [e]; exact a.1
        · exact (hx.r z mz x mx e).1
      have hzl := SS_lt h (hx.s z mz)
      have := nd_len (l := xs) (m := (SS w).filter fun s => op s z.1) hx.n fun x mx => List.mem_filter.mpr ⟨hx.s x mx, hop x mx⟩
      have := hge z.1 (by omega)
      unfold cnt at this ⊢
      omega
  unfold cnt at h1 h2 ⊢
  omega
theorem opn_mem {w : List Nat} (h : Wd w) {k c : Nat} (m : c ∈ opn w k) : c ∈ w ∧ op (sp w c) k = true := by
  obtain ⟨s, ms, rfl⟩ := List.mem_map.mp m
  obtain ⟨m1, m2⟩ := List.mem_filter.mp ms
  exact ⟨lr_mem h m1, by rw [sp_lr h m1]; exact m2⟩
theorem idx_sgs {c : Nat} : ∀ {own : List Nat}, c ∈ own → ∃ i, ∃ hi : i < own.length, own[i] = c ∧ idxE (.str [c]) (sgs own) = some i
  | [], m => nomatch m
  | a :: l, m => by
    have hs : sgs (a :: l) = .str [a] :: sgs l := rfl
    by_cases q : a = c
    · refine ⟨0, by simp, by simpa using q, ?_⟩
      rw [hs, idxE]
      simp [D.eq, q]
    · have m' : c ∈ l := by
        rcases List.mem_cons.mp m with e | e
        · exact absurd e.symm q
        · exact e
      obtain ⟨i, hi, h1, h2⟩ := idx_sgs m'
      refine ⟨i + 1, by simpa using hi, by simpa using h1, ?_⟩
      rw [hs, idxE, h2]
      simp [D.eq, q]
theorem flL_sgs : ∀ xs : List Nat, flL (sgs xs) = true
  | [] => rfl
  | x :: xs => flL_sgs xs
theorem seats_un {w : List Nat} (h : Wd w) (k : Nat) : ((opn w k).map fun c => (stc w c : Int)).Nodup := by
  unfold opn
  rw [List.map_map]
  refine List.pairwise_map.mpr ((cnt_lot h k).n.imp_of_mem fun {a b} ma mb ne e => ?_)
  have hl := cnt_lot h k
  have e2 : (seat w (sp w (lr w a)) : Int) = seat w (sp w (lr w b)) := e
  rw [sp_lr h (hl.s a ma), sp_lr h (hl.s b mb)] at e2
  exact seat_ne h (hl.s a ma) (hl.s b mb) ne (hl.r a ma b mb ne) (by omega)
theorem asked_ok {w : List Nat} (h : Wd w) : ap m__law_asked [.str w] = some (.p (.bl true)) := by
  have hw := h.e
  have a1 := law_seats_ok h
  have a2 := seats_ok h
  have s1 := same_ints (si w) (by have := si_len h; omega)
  by_cases hn0 : w = []
  · subst hn0
    have s2 := same_non 3
    generalize (si []).map D.int = ds at a1 a2 s1
    rw [ap, m__law_asked, runD_ap]
    simp [b__law_asked, a1, a2, s1, s2, law_gap_nil, full_nil, pm]
  · have hn := h.two hn0
    obtain ⟨j, hj, e1, hge, _, _⟩ := full_is h hn
    have b1 := law_gap_ok h hn
    have b2 := full_ok h hn
    rw [e1] at b1 b2
    have s2 := same_int 3 (j : Int)
    have c1 := own_ok (w := w) (by omega)
    have c2 := law_open_ok h j
    have hcnt := cnt_top h hn hge
    have hlen : (sgs (opn w j)).length = N2 w := by rw [sgs_len, opn, List.length_map]; exact hcnt
    have hN2 : N2 w = (dis (si w)).length := rfl
    have hmx := mxs_is h hn
    obtain ⟨x, r, hs⟩ : ∃ a r, si w = a :: r := by
      have := SS_ne_nil h hn
      unfold si
      cases hS : SS w with
      | nil => exact absurd hS this
      | cons s S => exact ⟨_, _, List.map_cons⟩
    have h3 : cBest maxR [.tup ((si w).map D.int)] = some (.int (mxs (si w))) := by
      rw [hs]
      exact cBest_maxT x r
    have l3 := intL_ints (si w)
    have l2 : (si w).length < 64 := by have := si_len h; omega
    have hsi : ∀ i (hi : i < (ssort w).length), ((si w).map D.int)[i]? = some (.int (stc w (ssort w)[i])) := fun i hi => by
      rw [si_stc]
      simp [hi]
    have hfl := flL_sgs (ssort w)
    have e5 := lcF_mp (own := [5]) (h := hName 5) (ifs := bYes) (elt := e__law_asked_1) (ρ := [S' w, .v (.p (.tup ((si w).map D.int))), I' j, .v (.ls (sgs (ssort w))), .v (.p (.lst (sgs (opn w j)))), .no]) (fun c => .str [c]) (fun c => D.int (stc w c)) (xs := opn w j) (by
      intro c mc
      obtain ⟨i, hi, q1, q2⟩ := idx_sgs ((mem_ssort c w).mpr (opn_mem h mc).1)
      have q3 := hsi i hi
      rw [q1] at q3
      have q4 : mIdx (sgs (ssort w)) [.str [c]] = some (.int (i : Nat), sgs (ssort w)) := by
        have hd : D.fl (.str [c]) = true := rfl
        simp only [mIdx, hd, hfl, Bool.and_self, if_true, q2, Option.map_some]
      generalize (si w).map D.int = ds at q3
      generalize sgs (opn w j) = os
      generalize sgs (ssort w) = ow at q4
      refine ⟨[S' w, .v (.p (.tup ds)), I' j, .v (.ls ow), .v (.p (.lst os)), S' [c]], [S' w, .v (.p (.tup ds)), I' j, .v (.ls ow), .v (.p (.lst os)), S' [c]], .val (.int (stc w c)), [S' w, .v (.p (.tup ds)), I' j, .v (.ls ow), .v (.p (.lst os)), S' [c]], by simp, rfl, ?_, by simp, by simp [wipeS]⟩
      simp [e__law_asked_1, isLs_ap, q4, q3])
    have hos : (opn w j).map (fun c => D.str [c]) = sgs (opn w j) := rfl
    have hrs : (opn w j).map (fun c => D.int (stc w c)) = ((opn w j).map fun c => (stc w c : Int)).map D.int := by rw [List.map_map]; rfl
    rw [hos, hrs] at e5
    have l4 := intL_ints ((opn w j).map fun c => (stc w c : Int))
    have l5 : (dis ((opn w j).map fun c => (stc w c : Int))).length = N2 w := by
      rw [← dis_len (seats_un h j) fun k => Iff.rfl, List.length_map, ← hlen, sgs_len]
    have l6 : ((opn w j).map fun c => (stc w c : Int)).length < 64 := by
      rw [List.length_map, ← sgs_len, hlen, hN2]
      have := nd_len (dis_nd (si w)) (m := si w) fun x m => (dis_mem _ _).mp m
      omega
    have l7 : (sgs (opn w j)).length ≤ big := by
      have := nd_len (dis_nd (si w)) (m := si w) fun x m => (dis_mem _ _).mp m
      rw [hlen, hN2, big_is]
      omega
    have hne : ((N2 w : Nat) : Int) = mxs (si w) + 1 := hmx.symm
    rw [← hN2.symm] at hN2
    generalize hdd : (opn w j).map (fun c => (stc w c : Int)) = ns at e5 l4 l5 l6
    generalize sgs (opn w j) = os at c2 hlen e5 l7
    generalize sgs (ssort w) = ow at c1 e5
    generalize ns.map D.int = es at e5 l4
    generalize hD : (si w).map D.int = ds at a1 a2 s1 h3 l3 e5
    have l8 : (dis (si w)).length = N2 w := rfl
    generalize mxs (si w) = mx at hne h3
    generalize N2 w = nn at hlen hne l5 l8
    rw [hlen] at l7
    rw [ap, m__law_asked, runD_ap]
    simp [b__law_asked, a1, a2, s1, b1, b2, s2, pm, isD, c1, c2, l3, l2, hlen, h3, l8, seqD, l7, wipeS, e5, back, l4, l5, l6, ← hne]
end W_bandhems_k59_seats_gaps_and_stabs

/-! K59Y: a letter around all, words one behind another. -/
namespace W_bandhems_k59_seats_gaps_and_stabs
open G
theorem perm2 {w : List Nat} (a : ∀ c ∈ w, c ∈ LET) (b : ∀ c ∈ LET, w.count c = 0 ∨ w.count c = 2) : w.Perm (ssort w ++ ssort w) := by
  refine List.perm_iff_count.mpr fun c => ?_
  rw [List.count_append]
  have hn := List.nodup_iff_count.mp (ssort_nd w) c
  by_cases m : c ∈ w
  · have h1 := List.count_pos_iff.mpr m
    have h2 := List.count_pos_iff.mpr ((mem_ssort c w).mpr m)
    rcases b c (a c m) with e | e <;> omega
  · have h1 := List.count_eq_zero.mpr m
    have h2 := List.count_eq_zero.mpr fun z => m ((mem_ssort c w).mp z)
    omega
theorem Wd.of {w : List Nat} (a : ∀ c ∈ w, c ∈ LET) (b : ∀ c ∈ LET, w.count c = 0 ∨ w.count c = 2) : Wd w := ⟨a, b, by
  have h1 := (perm2 a b).length_eq
  rw [List.length_append] at h1
  have h2 := nd_len (ssort_nd w) (m := LET) fun c m => a c ((mem_ssort c w).mp m)
  have : LET.length = 12 := rfl
  omega⟩
def wide (x : Nat) (w : List Nat) : List Nat := x :: (w ++ [x])
theorem Wd.wide {w : List Nat} (h : Wd w) {x : Nat} (mx : x ∈ LET) (nx : x ∉ w) : Wd (wide x w) := by
  refine Wd.of (fun c m => ?_) fun c mc => ?_
  · rcases List.mem_cons.mp m with e | m
    · rw [e]; exact mx
    · rcases List.mem_append.mp m with m | m
      · exact h.a c m
      · have : c = x := by simpa using m
        rw [this]; exact mx
  · unfold W_bandhems_k59_seats_gaps_and_stabs.wide
    rw [List.count_cons, List.count_append, List.count_singleton]
    by_cases q : x = c
    · subst q
      right
      rw [List.count_eq_zero.mpr nx]
      simp
    · have := h.b c mc
      simp [q]
      exact this
theorem wo_wide {w : List Nat} {x : Nat} (nx : x ∉ w) : wo x (wide x w) = w := by
  unfold wo wide
  rw [List.filter_cons, if_neg (by simp), List.filter_append]
  have : w.filter (fun c => !decide (c = x)) = w := List.filter_eq_self.mpr fun c m => by
    have : c ≠ x := fun e => nx (by rw [← e]; exact m)
    simpa using this
  rw [this]
  simp
theorem sp_wide {w : List Nat} (h : Wd w) {x : Nat} (mx : x ∈ LET) (nx : x ∉ w) : sp (wide x w) x = (0, w.length + 1) := by
  refine sp_is (h.wide mx nx) (by omega) rfl ?_
  unfold wide
  rw [List.getElem?_cons_succ, List.getElem?_append_right (Nat.le_refl _), Nat.sub_self]
  rfl
theorem N2_wide {w : List Nat} (h : Wd w) {x : Nat} (mx : x ∈ LET) (nx : x ∉ w) : N2 (wide x w) = N2 w + 1 := by
  have h' := h.wide mx nx
  have hm := max2 h
  have h1 := wo_le ord2 h' x (max2 h') (n' := N2 w) (by rw [wo_wide nx]; exact hm)
  obtain ⟨xs, hx, hl⟩ := hm.ex
  have hq : ∀ s ∈ SS w, lr w s ∈ wide x w ∧ lr w s ≠ x := fun s ms => by
    have := lr_mem h ms
    refine ⟨?_, fun e => nx (by rw [← e]; exact this)⟩
    unfold wide
    simp [this]
  have hlot := lot_map (R := R2) (S' := SS (wide x w)) (fun s => sp (wide x w) (lr w s)) (fun s ms => sp_SS (hq s ms).1) (fun s ms t mt e => by
      have e2 := congrArg (lr (wide x w)) e
      rw [lr_sp h' (hq s ms).1, lr_sp h' (hq t mt).1] at e2
      exact lr_inj h ms mt e2) (fun s ms t mt _ r => by
      refine (wo_iff ord2 h' (hq s ms).1 (hq t mt).1 (hq s ms).2 (hq t mt).2).mpr ?_
      rw [wo_wide nx, sp_lr h ms, sp_lr h mt]
      exact r) hx
  have mxw : x ∈ wide x w := by unfold wide; simp
  have hout : ∀ y ∈ xs.map (fun s => sp (wide x w) (lr w s)), y ∈ SS (wide x w) ∧ y ≠ sp (wide x w) x := fun y my => by
    refine ⟨hlot.s y my, fun e => ?_⟩
    obtain ⟨s, ms, rfl⟩ := List.mem_map.mp my
    have e2 := congrArg (lr (wide x w)) e
    rw [lr_sp h' (hq s (hx.s s ms)).1, lr_sp h' mxw] at e2
    exact (hq s (hx.s s ms)).2 e2
  have hr : ∀ y ∈ SS (wide x w), R2 y (sp (wide x w) x) ∧ R2 (sp (wide x w) x) y := fun y my => by
    have := SS_lt h' my
    have hlen : (wide x w).length = w.length + 2 := by unfold wide; simp
    rw [sp_wide h mx nx]
    unfold R2
    simp only
    omega
  have := (max2 h').ub (sp (wide x w) x :: xs.map (fun s => sp (wide x w) (lr w s))) ⟨List.nodup_cons.mpr ⟨fun m => (hout _ m).2 rfl, hlot.n⟩, fun y my => by
    rcases List.mem_cons.mp my with e | my
    · rw [e]; exact sp_SS mxw
    · exact (hout y my).1, fun y my z mz ne => by
    rcases List.mem_cons.mp my with e | my
    · rcases List.mem_cons.mp mz with e' | mz
      · exact absurd (e.trans e'.symm) ne
      · rw [e]; exact (hr z (hout z mz).1).2
    · rcases List.mem_cons.mp mz with e' | mz
      · rw [e']; exact (hr y (hout y my).1).1
      · exact hlot.r y my z mz ne⟩
  rw [List.length_cons, List.length_map] at this
  omega
theorem best_of {l : List Int} {M : Int} (hm : M ∈ l) (hg : ∀ x ∈ l, x ≤ M) : cBest maxR [.tup (l.map D.int)] = some (.int M) := by
  cases l with
  | nil => cases hm
  | cons a r =>
    have h1 := maxI_mem a r
    have h2 := maxI_ge a r M hm
    have h3 := hg _ h1
    have e : maxI a r = M := by omega
    rw [← e]
    exact cBest_maxT a r
theorem seats_max {w : List Nat} (h : Wd w) : cBest maxR [.tup ((si w ++ [-1]).map D.int)] = some (.int ((N2 w : Int) - 1)) := by
  refine best_of ?_ fun x mx => ?_
  · by_cases hn : w = []
    · subst hn
      exact List.mem_append_right _ (by
        have : N2 [] = 0 := rfl
        rw [this]; simp)
    · have h2 := h.two hn
      have h3 := mxs_is h h2
      obtain ⟨t, mt, _, e⟩ := top_ex (SS_ne_nil h h2)
      refine List.mem_append_left _ ?_
      rw [si_is]
      exact List.mem_map.mpr ⟨t, mt, by omega⟩
  · rcases List.mem_append.mp mx with m | m
    · rw [si_is] at m
      obtain ⟨s, ms, rfl⟩ := List.mem_map.mp m
      have hS : SS w ≠ [] := fun e => by rw [e] at ms; cases ms
      obtain ⟨t, mt, top, e⟩ := top_ex hS
      have := seats_top h mt top
      have := top s ms
      omega
    · have : x = -1 := by simpa using m
      omega
theorem wide_max {w : List Nat} (h : Wd w) {x : Nat} (mx : x ∈ LET) (nx : x ∉ w) : cBest maxR [.tup ((si (wide x w)).map D.int)] = some (.int (N2 w : Int)) := by
  have h' := h.wide mx nx
  have hn : 2 ≤ (wide x w).length := by unfold wide; simp
  have h3 := mxs_is h' hn
  rw [N2_wide h mx nx] at h3
  obtain ⟨t, mt, top, e⟩ := top_ex (SS_ne_nil h' hn)
  refine best_of ?_ fun y my => ?_
  · rw [si_is]
    exact List.mem_map.mpr ⟨t, mt, by omega⟩
  · rw [si_is] at my
    obtain ⟨s, ms, rfl⟩ := List.mem_map.mp my
    have := top s ms
    omega
/-! words one behind another -/
theorem Wd.app {w v : List Nat} (h : Wd w) (g : Wd v) (hd : ∀ c ∈ w, c ∉ v) : Wd (w ++ v) := Wd.of (fun c m => (List.mem_append.mp m).elim (h.a c) (g.a c)) fun c mc => by
  rw [List.count_append]
  by_cases m : c ∈ w
  · rw [List.count_eq_zero.mpr (hd c m), Nat.add_zero]
    exact h.b c mc
  · rw [List.count_eq_zero.mpr m, Nat.zero_add]
    exact g.b c mc
theorem sp_appL {w v : List Nat} (h : Wd w) (g : Wd (w ++ v)) {c : Nat} (m : c ∈ w) : sp (w ++ v) c = sp w c := by
  refine sp_is g (fp_lt h m) ?_ ?_
  · rw [List.getElem?_append_left (fp_len h m)]
    exact (place_iff h m _).mpr (.inl rfl)
  · rw [List.getElem?_append_left (lq_len h m)]
    exact (place_iff h m _).mpr (.inr rfl)
theorem sp_appR {w v : List Nat} (h : Wd v) (g : Wd (w ++ v)) {c : Nat} (m : c ∈ v) : sp (w ++ v) c = (w.length + fp v c, w.length + lq v c) := by
  refine sp_is g (by have := fp_lt h m; omega) ?_ ?_
  · rw [List.getElem?_append_right (by omega), Nat.add_sub_cancel_left]
    exact (place_iff h m _).mpr (.inl rfl)
  · rw [List.getElem?_append_right (by omega), Nat.add_sub_cancel_left]
    exact (place_iff h m _).mpr (.inr rfl)
theorem stc_eq {w u : List Nat} (h : Wd w) (g : Wd u) (hT : ∀ c ∈ w, c ∈ u ∧ ∀ d, (d ∈ u ∧ fp u d < fp u c ∧ fp u c < lq u d) ↔ (d ∈ w ∧ fp w d < fp w c ∧ fp w c < lq w d)) : ∀ (n : Nat) (c : Nat), c ∈ w → fp w c < n → stc u c = stc w c
  | 0, c, _, hn => absurd hn (Nat.not_lt_zero _)
  | n + 1, c, mc, hn => by
    have hTm : ∀ d, d ∈ (ssort w).filter (fun d => decide (fp w d < fp w c) && decide (fp w c < lq w d)) ↔ d ∈ w ∧ fp w d < fp w c ∧ fp w c < lq w d := fun d => by
      rw [List.mem_filter, mem_ssort]
      simp
    rw [← stc_is h mc hTm, ← stc_is g (hT c mc).1 fun d => (hTm d).trans ((hT c mc).2 d).symm]
    refine congrArg lf (List.map_congr_left fun d md => ?_)
    have := (hTm d).mp md
    exact stc_eq h g hT n d this.1 (by omega)
theorem stc_appL {w v : List Nat} (h : Wd w) (g : Wd v) (b : Wd (w ++ v)) (hd : ∀ c ∈ w, c ∉ v) {c : Nat} (m : c ∈ w) : stc (w ++ v) c = stc w c := by
  refine stc_eq h b (fun c m => ⟨List.mem_append_left _ m, fun d => ?_⟩) (fp w c + 1) c m (by omega)
  have e1 : fp (w ++ v) c = fp w c := congrArg Prod.fst (sp_appL h b m)
  have l1 := fp_len h m
  constructor
  · rintro ⟨md, h1, h2⟩
    rcases List.mem_append.mp md with md | md
    · have e2 : fp (w ++ v) d = fp w d := congrArg Prod.fst (sp_appL h b md)
      have e3 : lq (w ++ v) d = lq w d := congrArg Prod.snd (sp_appL h b md)
      exact ⟨md, by omega, by omega⟩
    · have e2 : fp (w ++ v) d = w.length + fp v d := congrArg Prod.fst (sp_appR g b md)
      omega
  · rintro ⟨md, h1, h2⟩
    have e2 : fp (w ++ v) d = fp w d := congrArg Prod.fst (sp_appL h b md)
    have e3 : lq (w ++ v) d = lq w d := congrArg Prod.snd (sp_appL h b md)
    exact ⟨List.mem_append_left _ md, by omega, by omega⟩
theorem stc_appR {w v : List Nat} (h : Wd w) (g : Wd v) (b : Wd (w ++ v)) (hd : ∀ c ∈ w, c ∉ v) {c : Nat} (m : c ∈ v) : stc (w ++ v) c = stc v c := by
  refine stc_eq g b (fun c m => ⟨List.mem_append_right _ m, fun d => ?_⟩) (fp v c + 1) c m (by omega)
  have e1 : fp (w ++ v) c = w.length + fp v c := congrArg Prod.fst (sp_appR g b m)
  constructor
  · rintro ⟨md, h1, h2⟩
    rcases List.mem_append.mp md with md | md
    · have e3 : lq (w ++ v) d = lq w d := congrArg Prod.snd (sp_appL h b md)
      have := lq_len h md
      omega
    · have e2 : fp (w ++ v) d = w.length + fp v d := congrArg Prod.fst (sp_appR g b md)
      have e3 : lq (w ++ v) d = w.length + lq v d := congrArg Prod.snd (sp_appR g b md)
      exact ⟨md, by omega, by omega⟩
  · rintro ⟨md, h1, h2⟩
    have e2 : fp (w ++ v) d = w.length + fp v d := congrArg Prod.fst (sp_appR g b md)
    have e3 : lq (w ++ v) d = w.length + lq v d := congrArg Prod.snd (sp_appR g b md)
    exact ⟨List.mem_append_right _ md, by omega, by omega⟩
theorem own_appL {w v : List Nat} (hd : ∀ c ∈ w, c ∉ v) : (ssort (w ++ v)).filter (fun c => decide (c ∈ w)) = ssort w := lt_uniq ((ssort_lt _).sublist List.filter_sublist) (ssort_lt w) fun x => by
  rw [List.mem_filter, mem_ssort, mem_ssort, List.mem_append, decide_eq_true_eq]
  exact ⟨fun z => z.2, fun z => ⟨.inl z, z⟩⟩
theorem own_appR {w v : List Nat} (hd : ∀ c ∈ w, c ∉ v) : (ssort (w ++ v)).filter (fun c => decide (c ∈ v)) = ssort v := lt_uniq ((ssort_lt _).sublist List.filter_sublist) (ssort_lt v) fun x => by
  rw [List.mem_filter, mem_ssort, mem_ssort, List.mem_append, decide_eq_true_eq]
  exact ⟨fun z => z.2, fun z => ⟨.inr z, z⟩⟩
theorem si_appL {w v : List Nat} (h : Wd w) (g : Wd v) (b : Wd (w ++ v)) (hd : ∀ c ∈ w, c ∉ v) : ((ssort (w ++ v)).filter (fun c => decide (c ∈ w))).map (fun c => (stc (w ++ v) c : Int)) = si w := by
  rw [own_appL hd, si_stc]
  exact List.map_congr_left fun c mc => by rw [stc_appL h g b hd ((mem_ssort c w).mp mc)]
theorem si_appR {w v : List Nat} (h : Wd w) (g : Wd v) (b : Wd (w ++ v)) (hd : ∀ c ∈ w, c ∉ v) : ((ssort (w ++ v)).filter (fun c => decide (c ∈ v))).map (fun c => (stc (w ++ v) c : Int)) = si v := by
  rw [own_appR hd, si_stc]
  exact List.map_congr_left fun c mc => by rw [stc_appR h g b hd ((mem_ssort c v).mp mc)]
end W_bandhems_k59_seats_gaps_and_stabs

/-! K59Z: one turn: seats. -/
namespace W_bandhems_k59_seats_gaps_and_stabs
open G
abbrev V' (d : D) : Sl := .v (.p d)
def lft (w : List Nat) : List Nat := LET.filter fun c => !decide (c ∈ w)
theorem mem_lft {w : List Nat} {c : Nat} : c ∈ lft w ↔ c ∈ LET ∧ c ∉ w := by simp [lft]
theorem lft_nd (w : List Nat) : (lft w).Nodup := (let_inc.imp fun {a b} h => (by omega : a ≠ b)).sublist List.filter_sublist
theorem lft_len (w : List Nat) : (lft w).length ≤ 12 := List.length_filter_le _ _
def r1 : Sm := (sAsg 1 (nCallO 2 0 m__law_pick (aCons (eVar 0) (aCons (eFrz (nLst (aCons (eC (.int 0)) (aCons (eC (.int 1)) (aCons (eC (.int 2)) (aCons (eC (.int 3)) (aCons (eC (.int 5)) (aCons (eC (.int 8)) (aCons (eC (.int 12)) (aCons (eFrz (nCallO 2 0 m__law_take (aCons (eVar 0) (aCons (eC (.int 13)) aNil)))) aNil)))))))))) aNil))))
def r2 : Sm := (sAsg 2 (nCallO 2 0 m__law_word (aCons (eVar 0) (aCons (eKeep 1) aNil))))
def r3 : Sm := (sIf (bOr (bNot (bOf (eFrz (nCall 1 m__law_asked (aCons (eKeep 2) aNil))))) (bNot (bOf (eFrz (nCall 1 m__law_asked (aCons (eRevT (eVar 2)) aNil)))))) (sRet (nVal (eC (.bl false)))) sNil)
def r4 : Sm := (sAsg 3 (nLc [13] (iSeq (eC (.str LET))) (hName 13) (bOf (eOp cNi (eVar 13) (eVar 2))) e__law_turn_1))
def r5 : Sm := (sIf (bOf (eOp cEq (eCb cLen (aCons (eVar 3) aNil)) (eC (.int 0)))) (sRet (nVal (eC (.bl true)))) sNil)
def r6 : Sm := (sAsg 4 (nVal (eOp cAdd (eOp cAdd (eIx (eVar 3) (eC (.int 0))) (eVar 2)) (eIx (eVar 3) (eC (.int 0))))))
def r7 : Sm := (sIf (bOr (bNot (bOf (eFrz (nCall 1 m__law_asked (aCons (eKeep 4) aNil))))) (bOf (eOp cNe (eCb (cBest maxR) (aCons (eFrz (nCall 1 m_seats (aCons (eKeep 4) aNil))) aNil)) (eOp cAdd (eCb (cBest maxR) (aCons (eOp cAdd (eFrz (nCall 1 m_seats (aCons (eKeep 2) aNil))) (eTup (aCons (eUn cNeg (eC (.int 1))) aNil))) aNil)) (eC (.int 1)))))) (sRet (nVal (eC (.bl false)))) sNil)
def r8 : Sm := (sAsg 5 nDic0)
def r9 : Sm := (sFor (iSeq (eSl (eFrz (nCall 1 m__law_own (aCons (eKeep 2) aNil))) oNone (oSome (eCb cLen (aCons (eVar 3) aNil))))) (hName 6) l__law_turn_2)
def r10 : Sm := (sAsg 7 (nVal (eJoin (eC (.str [])) (eFrz (nLc [15] (iSeq (eKeep 2)) (hName 15) (bOf (eOp cInD (eVar 15) (eVar 5))) e__law_turn_3)))))
def r11 : Sm := (sPars [8, 9] (mCons (nVal (eOp cAdd (eVar 2) (eVar 7))) (mCons (nCall 1 m_seats (aCons (eOp cAdd (eVar 2) (eVar 7)) aNil)) mNil)))
def r12 : Sm := (sAsg 10 (nCall 1 m__law_own (aCons (eKeep 8) aNil)))
def r13 : Sm := (sAsg 11 (nLc [14] (iRng1 (aCons (eCb cLen (aCons (eVar 10) aNil)) aNil)) (hName 14) (bOf (eOp cInA (eIx (eVar 10) (eVar 14)) (eVar 2))) e__law_turn_4))
def r14 : Sm := (sAsg 12 (nLc [14] (iRng1 (aCons (eCb cLen (aCons (eVar 10) aNil)) aNil)) (hName 14) (bOf (eOp cInA (eIx (eVar 10) (eVar 14)) (eVar 7))) e__law_turn_5))
def r15 : Sm := (sRet (nVal (eAnd (eFrz (nCall 1 m__law_asked (aCons (eKeep 8) aNil))) (eAnd (eFrz (nCall 2 (m__law_same 4) (aCons (eCb cTuple (aCons (eVar 11) aNil)) (aCons (eFrz (nCall 1 m_seats (aCons (eKeep 2) aNil))) aNil)))) (eFrz (nCall 2 (m__law_same 4) (aCons (eCb cTuple (aCons (eVar 12) aNil)) (aCons (eFrz (nCall 1 m_seats (aCons (eKeep 7) aNil))) aNil))))))))
theorem turn_split : b__law_turn = sSeq r1 (sSeq r2 (sSeq r3 (sSeq r4 (sSeq r5 (sSeq r6 (sSeq r7 (sSeq r8 (sSeq r9 (sSeq r10 (sSeq r11 (sSeq r12 (sSeq r13 (sSeq r14 r15))))))))))))) := rfl
theorem pick_nat (a s c : Int) (ns : List Nat) (d : Int) (h0 : 0 ≤ d) (h1 : ns ≠ []) (h2 : ns.length < 1000) : ∃ (m : Nat) (a' s' c' : Int), (m ∈ ns ∨ (m : Int) = d) ∧ m__law_pick [.pin (pot a s c), .v (.p (.lst (ns.map nI ++ [.int d])))] = some (.p (nI m), [.pin (pot a' s' c'), .v (.p (.lst (ns.map nI ++ [.int d])))]) := by
  obtain ⟨q, a', s', c', hq, e⟩ := pick_ok a s c (ns.map nI ++ [.int d]) (by simp) (by simp; omega)
  rcases List.mem_append.mp hq with m | m
  · obtain ⟨n, mn, rfl⟩ := List.mem_map.mp m
    exact ⟨n, a', s', c', .inl mn, e⟩
  · have : q = .int d := by simpa using m
    subst this
    obtain ⟨n, rfl⟩ : ∃ n : Nat, d = n := ⟨d.toNat, by omega⟩
    exact ⟨n, a', s', c', .inr rfl, e⟩
theorem r1_ok (a s c : Int) : ∃ a' s' c', ∃ m : Nat, m ≤ 12 ∧ r1 [.pin (pot a s c), .no, .no, .no, .no, .no, .no, .no, .no, .no, .no, .no, .no, .no, .no, .no] = some (.nx [.pin (pot a' s' c'), I' m, .no, .no, .no, .no, .no, .no, .no, .no, .no, .no, .no, .no, .no, .no]) := by
  obtain ⟨d, a1, s1, c1, hd, hd2, e1⟩ := take_ok a s c 13 (by omega) (by omega)
  obtain ⟨m, a2, s2, c2, hm, e2⟩ := pick_nat a1 s1 c1 [0, 1, 2, 3, 5, 8, 12] d hd (by simp) (by simp)
  have hm12 : m ≤ 12 := by
    rcases hm with h | h
    · simp at h; omega
    · omega
  refine ⟨a2, s2, c2, m, hm12, ?_⟩
  have g8 : 8 ≤ big := by decide
  have e2' : m__law_pick [.pin (pot a1 s1 c1), .v (.p (.lst [.int 0, .int 1, .int 2, .int 3, .int 5, .int 8, .int 12, .int d]))] = some (.p (nI m), [.pin (pot a2 s2 c2), .v (.p (.lst [.int 0, .int 1, .int 2, .int 3, .int 5, .int 8, .int 12, .int d]))]) := e2
  simp [r1, argO_zero, refAt_zero, backO, e1, e2', T.root, Sl.t, g8]
theorem r2_ok (a s c : Int) (m : Nat) (hm : m ≤ 12) : ∃ a' s' c' w, Wd w ∧ r2 [.pin (pot a s c), I' m, .no, .no, .no, .no, .no, .no, .no, .no, .no, .no, .no, .no, .no, .no] = some (.nx [.pin (pot a' s' c'), I' m, S' w, .no, .no, .no, .no, .no, .no, .no, .no, .no, .no, .no, .no, .no]) := by
  obtain ⟨a1, s1, c1, w, hw, hl, e⟩ := word_draw a s c m hm
  refine ⟨a1, s1, c1, w, hw, ?_⟩
  simp [r2, argO_zero, refAt_zero, backO, e, T.root, Sl.t]
theorem r3_ok (x0 x1 : Sl) {w : List Nat} (h : Wd w) (ρ : Rho) : r3 (x0 :: x1 :: S' w :: ρ) = some (.nx (x0 :: x1 :: S' w :: ρ)) := by
  have e1 := asked_ok h
  have e2 := asked_ok h.rev
  have l : w.length ≤ big := by have := h.e; rw [big_is]; omega
  simp [r3, e1, e2, l]
theorem r4_ok (x0 x1 : Sl) (w : List Nat) : r4 [x0, x1, S' w, .no, .no, .no, .no, .no, .no, .no, .no, .no, .no, .no, .no, .no] = some (.nx [x0, x1, S' w, .v (.ls (sgs (lft w))), .no, .no, .no, .no, .no, .no, .no, .no, .no, .no, .no, .no]) := by
  have e := lcF_fp (own := [13]) (h := hName 13) (ifs := (bOf (eOp cNi (eVar 13) (eVar 2)))) (elt := e__law_turn_1) (ρ := [x0, x1, S' w, .no, .no, .no, .no, .no, .no, .no, .no, .no, .no, .no, .no, .no]) (fun c => .str [c]) (fun c => .str [c]) (fun c => !decide (c ∈ w)) (xs := LET) (by
    intro c mc
    exact ⟨[x0, x1, S' w, .no, .no, .no, .no, .no, .no, .no, .no, .no, .no, S' [c], .no, .no], [x0, x1, S' w, .no, .no, .no, .no, .no, .no, .no, .no, .no, .no, S' [c], .no, .no], by simp, by simp, fun _ => ⟨.val (.str [c]), [x0, x1, S' w, .no, .no, .no, .no, .no, .no, .no, .no, .no, .no, S' [c], .no, .no], by simp [e__law_turn_1], by simp, by simp [wipeS]⟩, fun _ => by simp [wipeS]⟩)
  have e7 : (LET.filter fun c => !decide (c ∈ w)).map (fun c => D.str [c]) = sgs (lft w) := rfl
  rw [e7] at e
  have l1 : LET.length ≤ big := by rw [big_is]; decide
  generalize sgs (lft w) = us at e ⊢
  generalize hl : LET = ll at e l1
  simp [r4, hl, seqD, l1, wipeS, e, back]
theorem r6_ok (x0 x1 : Sl) (w : List Nat) (hw : w.length ≤ 24) (x : Nat) (L : List Nat) : r6 [x0, x1, S' w, .v (.ls (sgs (x :: L))), .no, .no, .no, .no, .no, .no, .no, .no, .no, .no, .no, .no] = some (.nx [x0, x1, S' w, .v (.ls (sgs (x :: L))), S' (wide x w), .no, .no, .no, .no, .no, .no, .no, .no, .no, .no, .no]) := by
  have hs : sgs (x :: L) = .str [x] :: sgs L := rfl
  rw [hs]
  generalize sgs L = ls
  have g1 : 1 + w.length ≤ big := by rw [big_is]; omega
  have g2 : w.length + 1 + 1 ≤ big := by rw [big_is]; omega
  simp [r6, g1, g2, wide]
theorem r7_ok (x0 x1 x3 : Sl) {w : List Nat} (h : Wd w) {x : Nat} (mx : x ∈ LET) (nx : x ∉ w) (ρ : Rho) : r7 (x0 :: x1 :: S' w :: x3 :: S' (wide x w) :: ρ) = some (.nx (x0 :: x1 :: S' w :: x3 :: S' (wide x w) :: ρ)) := by
  have h' := h.wide mx nx
  have e1 := asked_ok h'
  have e2 := seats_ok h'
  have e3 := seats_ok h
  have e4 := wide_max h mx nx
  have e5 := seats_max h
  rw [List.map_append] at e5
  have l1 : ((si w).map D.int).length + 1 ≤ big := by have := si_len h; rw [List.length_map, big_is]; omega
  have g1 : 1 ≤ big := by decide
  generalize (si (wide x w)).map D.int = d1 at e2 e4
  generalize (si w).map D.int = d2 at e3 e5 l1
  generalize wide x w = v at e1 e2 ⊢
  have e5' : cBest maxR [.tup (d2 ++ [.int (-1)])] = some (.int ((N2 w : Int) - 1)) := e5
  have e6 : cNeg (.int 1) = some (.int (-1)) := rfl
  simp [r7, e1, e2, e3, e4, e5', e6, g1, l1]
/-! words with other letters for some -/
theorem count_fm {K : List Nat} {g : Nat → Nat} (hg : ∀ c ∈ K, ∀ d ∈ K, g c = g d → c = d) {w : List Nat} {c : Nat} (mc : c ∈ K) : ((w.filter fun c => decide (c ∈ K)).map g).count (g c) = w.count c := by
  rw [count_map fun d md e => hg d (by simpa using (List.mem_filter.mp md).2) c mc e]
  exact List.count_filter (by simpa using mc)
theorem Wd.fm {w K : List Nat} (h : Wd w) {g : Nat → Nat} (hg : ∀ c ∈ K, ∀ d ∈ K, g c = g d → c = d) (hl : ∀ c ∈ K, g c ∈ LET) : Wd ((w.filter fun c => decide (c ∈ K)).map g) := Wd.of (fun d m => by
    obtain ⟨c, mc, rfl⟩ := List.mem_map.mp m
    exact hl c (by simpa using (List.mem_filter.mp mc).2)) fun d _ => by
  by_cases m : d ∈ (w.filter fun c => decide (c ∈ K)).map g
  · obtain ⟨c, mc, rfl⟩ := List.mem_map.mp m
    rw [count_fm hg (by simpa using (List.mem_filter.mp mc).2)]
    exact h.b c (h.a c (List.mem_filter.mp mc).1)
  · exact .inl (List.count_eq_zero.mpr m)
theorem r9_ok (x0 x1 x4 : Sl) {w : List Nat} (h : Wd w) (L : List Nat) (hL : L.length ≤ 12) (hn : L.Nodup) : ∃ (K : List Nat) (g : Nat → Nat) (o : Option D), (∀ c ∈ K, c ∈ w) ∧ (∀ c ∈ K, g c ∈ L) ∧ (∀ c ∈ K, ∀ d ∈ K, g c = g d → c = d) ∧ K.Nodup ∧ (rnK K g).length ≤ 24 ∧
    r9 [x0, x1, S' w, .v (.ls (sgs L)), x4, .v (.di []), .no, .no, .no, .no, .no, .no, .no, .no, .no, .no] = some (.nx [x0, x1, S' w, .v (.ls (sgs L)), x4, .v (.di (rnK K g)), lp o, .no, .no, .no, .no, .no, .no, .no, .no, .no]) := by
  have hw := h.e
  have e1 := own_ok (w := w) (by omega)
  have hol := ssort_len w
  have hnd := (ssort_nd w).sublist (List.take_sublist L.length (ssort w))
  have hKw : ∀ c ∈ (ssort w).take L.length, c ∈ w := fun c m => (mem_ssort c w).mp (List.mem_of_mem_take m)
  have hcut : cutD (sgs (ssort w)) none (some (L.length : Int)) = sgs ((ssort w).take L.length) := by
    rw [cutD_sgs, cutD_upto]
  have hKl : ((ssort w).take L.length).length ≤ L.length := by rw [List.length_take]; omega
  have hKl2 : ((ssort w).take L.length).length ≤ 24 := by rw [List.length_take]; omega
  generalize (ssort w).take L.length = K at hnd hKw hcut hKl hKl2
  have hL' : (L.take K.length).length = K.length := by rw [List.length_take]; omega
  have hat := fun {i : Nat} (hi : i < K.length) => rl_at hnd hL' hi
  have hat2 : ∀ i (hi : i < K.length), rl K (L.take K.length) K[i] = L[i]'(by omega) := fun i hi => by
    rw [hat hi, List.getElem_take]
  generalize rl K (L.take K.length) = g at hat2
  have hidx : ∀ c ∈ K, ∃ i, ∃ hi : i < K.length, K[i] = c := fun c m => List.mem_iff_getElem.mp m
  obtain ⟨ρ', e, o, rfl⟩ := forF_rel (h := hName 6) (b := l__law_turn_2) (ds := sgs K) (ρ := [x0, x1, S' w, .v (.ls (sgs L)), x4, .v (.di []), .no, .no, .no, .no, .no, .no, .no, .no, .no, .no])
    (fun i ρ => ∃ o, ρ = [x0, x1, S' w, .v (.ls (sgs L)), x4, .v (.di (rnK (K.take i) g)), lp o, .no, .no, .no, .no, .no, .no, .no, .no, .no]) ⟨none, rfl⟩ (by
    rintro i hi _ ⟨o, rfl⟩
    have hi' : i < K.length := by rwa [sgs_len] at hi
    have hg : (sgs K)[i] = .str [K[i]] := by simp [sgs]
    rw [hg]
    have hiL : i < L.length := by omega
    have g2 := sgs_get (xs := L) hiL
    have g4 := sgs_len L
    have g6 : putD (rnK (K.take i) g) (.s [K[i]]) (.str [g K[i]]) = rnK (K.take i ++ [K[i]]) g := by
      rw [putD_new fun p m e => by
        obtain ⟨d, md, rfl⟩ := List.mem_map.mp m
        injection e with e
        injection e with e
        have := hnd.sublist (List.take_sublist (i + 1) K)
        rw [take_snoc hi', List.nodup_append] at this
        exact this.2.2 d md K[i] (by simp) e]
      unfold rnK
      rw [List.map_append]
      rfl
    have g5 := hat2 i hi'
    rw [take_snoc hi']
    refine ⟨[x0, x1, S' w, .v (.ls (sgs L)), x4, .v (.di (rnK (K.take i) g)), S' [K[i]], .no, .no, .no, .no, .no, .no, .no, .no, .no], [x0, x1, S' w, .v (.ls (sgs L)), x4, .v (.di (rnK (K.take i ++ [K[i]]) g)), S' [K[i]], .no, .no, .no, .no, .no, .no, .no, .no, .no], by simp, .inl ?_, some (.str [K[i]]), rfl⟩
    rw [← g6, g5]
    have g7 : (rnK (K.take i) g).length = i := by rw [rnK, List.length_map, List.length_take]; omega
    have g8 : i < big := by rw [big_is]; omega
    generalize rnK (K.take i) g = kvs at g7
    generalize sgs L = ss at g2 g4
    generalize K[i] = x
    generalize L[i] = y at g2
    simp [l__law_turn_2, g7, g2, g4, isLs_ap, isDi_ap, putAt_ap, g8])
  rw [sgs_len, List.take_length] at e
  refine ⟨K, g, o, hKw, fun c m => ?_, fun c mc d md e => ?_, hnd, by rw [rnK, List.length_map]; exact hKl2, ?_⟩
  · obtain ⟨i, hi, rfl⟩ := hidx c m
    rw [hat2 i hi]
    exact List.getElem_mem _
  · obtain ⟨i, hi, rfl⟩ := hidx c mc
    obtain ⟨j, hj, rfl⟩ := hidx d md
    rw [hat2 i hi, hat2 j hj] at e
    rcases Nat.lt_trichotomy i j with q | q | q
    · exact absurd e (List.pairwise_iff_getElem.mp hn i j (by omega) (by omega) q)
    · subst q; rfl
    · exact absurd e.symm (List.pairwise_iff_getElem.mp hn j i (by omega) (by omega) q)
  · have g1 := sgs_len L
    generalize sgs L = ls at e g1
    generalize sgs K = ks at e hcut
    generalize sgs (ssort w) = ow at e1 hcut
    simp [r9, e1, g1, cSl, hcut, seqD, e]
theorem r10_ok (x0 x1 x3 x4 x6 : Sl) {w K : List Nat} {g : Nat → Nat} (hw : w.length ≤ 24) : r10 [x0, x1, S' w, x3, x4, .v (.di (rnK K g)), x6, .no, .no, .no, .no, .no, .no, .no, .no, .no] = some (.nx [x0, x1, S' w, x3, x4, .v (.di (rnK K g)), x6, S' ((w.filter fun c => decide (c ∈ K)).map g), .no, .no, .no, .no, .no, .no, .no, .no]) := by
  have hin : ∀ c, (lookK (rnK K g) (.s [c])).isSome = decide (c ∈ K) := fun c => by
    by_cases m : c ∈ K
    · have := rnK_at g m
      have e : lookK (rnK K g) (.s [c]) = some (.str [g c]) := this
      rw [e]
      simp [m]
    · have : lookK (rnK K g) (.s [c]) = none := lookK_none fun p mp e => by
        obtain ⟨d, md, rfl⟩ := List.mem_map.mp mp
        injection e with e
        injection e with e
        exact m (by rw [← e]; exact md)
      rw [this]
      simp [m]
  have hlk := fun {c : Nat} (m : c ∈ K) => rnK_at g m
  generalize rnK K g = kvs at hin hlk ⊢
  have e := lcF_fp (own := [15]) (h := hName 15) (ifs := (bOf (eOp cInD (eVar 15) (eVar 5)))) (elt := e__law_turn_3) (ρ := [x0, x1, S' w, x3, x4, .v (.di kvs), x6, .no, .no, .no, .no, .no, .no, .no, .no, .no]) (fun c => .str [c]) (fun c => .str [g c]) (fun c => decide (c ∈ K)) (xs := w) (by
    intro c mc
    refine ⟨[x0, x1, S' w, x3, x4, .v (.di kvs), x6, .no, .no, .no, .no, .no, .no, .no, .no, S' [c]], [x0, x1, S' w, x3, x4, .v (.di kvs), x6, .no, .no, .no, .no, .no, .no, .no, .no, S' [c]], by simp, by simp [hin c], fun hm => ⟨.val (.str [g c]), [x0, x1, S' w, x3, x4, .v (.di kvs), x6, .no, .no, .no, .no, .no, .no, .no, .no, S' [c]], ?_, by simp, by simp [wipeS]⟩, fun _ => by simp [wipeS]⟩
    have e2 := hlk (of_decide_eq_true hm)
    simp [e__law_turn_3, e2])
  have e7 : (w.filter fun c => decide (c ∈ K)).map (fun c => D.str [g c]) = sgs ((w.filter fun c => decide (c ∈ K)).map g) := by
    unfold sgs
    rw [List.map_map]
    rfl
  rw [e7] at e
  have hl := List.length_filter_le (fun c => decide (c ∈ K)) w
  have e2 := cJoin_sgs ((w.filter fun c => decide (c ∈ K)).map g) (by rw [List.length_map, big_is]; omega)
  have l1 : w.length ≤ big := by rw [big_is]; omega
  generalize (w.filter fun c => decide (c ∈ K)).map g = v at e e2 ⊢
  generalize sgs v = vs at e e2
  simp [r10, seqD, l1, wipeS, e, back, e2]
theorem filt_range {α : Type} (own : List Nat) (p : Nat → Bool) (f : Nat → α) : ((List.range own.length).filter fun k => p (own.getD k 0)).map (fun k => f (own.getD k 0)) = (own.filter p).map f := by
  have h : (List.range own.length).map (fun k => own.getD k 0) = own := by
    refine List.ext_getElem (by simp) fun i h1 h2 => ?_
    simp [List.getD, h2]
  conv => rhs; rw [← h]
  rw [List.filter_map, List.map_map]
  rfl
theorem r11_ok (x0 x1 x3 x4 x5 x6 : Sl) {w v : List Nat} (h : Wd (w ++ v)) (ρ : Rho) : r11 (x0 :: x1 :: S' w :: x3 :: x4 :: x5 :: x6 :: S' v :: .no :: .no :: ρ) = some (.nx (x0 :: x1 :: S' w :: x3 :: x4 :: x5 :: x6 :: S' v :: S' (w ++ v) :: V' (.tup ((si (w ++ v)).map D.int)) :: ρ)) := by
  have e := seats_ok h
  have l := h.e
  rw [List.length_append] at l
  have l1 : w.length + v.length ≤ big := by rw [big_is]; omega
  generalize (si (w ++ v)).map D.int = ds at e ⊢
  simp [r11, l1, e]
theorem sel_ok (x0 x1 x3 x4 x5 x6 x11 x12 x15 : Sl) (w v u : List Nat) (i : Nat) (hi : (i = 2 ∧ w = u) ∨ (i = 7 ∧ v = u)) {b : List Nat} (hb : Wd b) (elt : Em) (he : elt = eIx (eVar 9) (eVar 14)) :
    lcF [14] (hName 14) (bOf (eOp cInA (eIx (eVar 10) (eVar 14)) (eVar i))) elt (rgD 0 (ssort b).length) [x0, x1, S' w, x3, x4, x5, x6, S' v, S' b, V' (.tup ((si b).map D.int)), .v (.ls (sgs (ssort b))), x11, x12, .no, .no, x15] =
      some ((((ssort b).filter fun c => decide (c ∈ u)).map fun c => (stc b c : Int)).map D.int, [x0, x1, S' w, x3, x4, x5, x6, S' v, S' b, V' (.tup ((si b).map D.int)), .v (.ls (sgs (ssort b))), x11, x12, .no, .no, x15]) := by
  have hsi : ∀ i (hi : i < (ssort b).length), ((si b).map D.int)[i]? = some (.int (stc b ((ssort b).getD i 0))) := fun i hi => by
    rw [si_stc]
    simp [hi, List.getD]
  have e := lcF_fp (own := [14]) (h := hName 14) (ifs := (bOf (eOp cInA (eIx (eVar 10) (eVar 14)) (eVar i)))) (elt := elt) (ρ := [x0, x1, S' w, x3, x4, x5, x6, S' v, S' b, V' (.tup ((si b).map D.int)), .v (.ls (sgs (ssort b))), x11, x12, .no, .no, x15]) (fun k : Nat => .int k) (fun k => D.int (stc b ((ssort b).getD k 0))) (fun k => decide ((ssort b).getD k 0 ∈ u)) (xs := List.range (ssort b).length) (by
    intro k hk
    have hk' := List.mem_range.mp hk
    have q3 := hsi k hk'
    have q4 : (sgs (ssort b))[k]? = some (.str [(ssort b).getD k 0]) := by simp [sgs, List.getD, hk']
    generalize (si b).map D.int = ds at q3
    generalize sgs (ssort b) = ow at q4
    generalize (ssort b).getD k 0 = y at q3 q4
    refine ⟨[x0, x1, S' w, x3, x4, x5, x6, S' v, S' b, V' (.tup ds), .v (.ls ow), x11, x12, .no, I' k, x15], [x0, x1, S' w, x3, x4, x5, x6, S' v, S' b, V' (.tup ds), .v (.ls ow), x11, x12, .no, I' k, x15], by simp, ?_, fun _ => ⟨.val (.int (stc b y)), [x0, x1, S' w, x3, x4, x5, x6, S' v, S' b, V' (.tup ds), .v (.ls ow), x11, x12, .no, I' k, x15], by simp [he, q3], by simp, by simp [wipeS]⟩, fun _ => by simp [wipeS]⟩
    rcases hi with ⟨rfl, rfl⟩ | ⟨rfl, rfl⟩ <;> simp [q4])
  rw [← rgD_mp] at e
  have e7 : ((List.range (ssort b).length).filter fun k => decide ((ssort b).getD k 0 ∈ u)).map (fun k => D.int (stc b ((ssort b).getD k 0))) = (((ssort b).filter fun c => decide (c ∈ u)).map fun c => (stc b c : Int)).map D.int := by
    rw [filt_range (ssort b) (fun c => decide (c ∈ u)) (fun c => D.int (stc b c)), List.map_map]
    rfl
  rw [e7] at e
  exact e
theorem turn_ok (a s c : Int) : ∃ a' s' c', m__law_turn [.pin (pot a s c)] = some (.p (.bl true), [.pin (pot a' s' c')]) := by
  obtain ⟨a1, s1, c1, m, hm, e1⟩ := r1_ok a s c
  obtain ⟨a2, s2, c2, w, h, e2⟩ := r2_ok a1 s1 c1 m hm
  refine ⟨a2, s2, c2, ?_⟩
  have hw := h.e
  have e3 := r3_ok (.pin (pot a2 s2 c2)) (I' m) h [.no, .no, .no, .no, .no, .no, .no, .no, .no, .no, .no, .no, .no]
  have e4 := r4_ok (.pin (pot a2 s2 c2)) (I' m) w
  have hr : ([.pin (pot a s c)] ++ List.replicate 15 Sl.no : Rho) = [.pin (pot a s c), .no, .no, .no, .no, .no, .no, .no, .no, .no, .no, .no, .no, .no, .no, .no] := rfl
  rw [m__law_turn, runD_ap, turn_split, hr]
  simp only [sSeq_ap, e1, e2, e3, e4, Option.bind_some]
  have hlf := lft_len w
  have hln := lft_nd w
  have hmem := fun c => mem_lft (w := w) (c := c)
  generalize lft w = L at hlf hln hmem
  cases L with
  | nil =>
    have e5 : r5 [.pin (pot a2 s2 c2), I' m, S' w, .v (.ls (sgs [])), .no, .no, .no, .no, .no, .no, .no, .no, .no, .no, .no, .no] = some (.rt (.p (.bl true)) [.pin (pot a2 s2 c2), I' m, S' w, .v (.ls (sgs [])), .no, .no, .no, .no, .no, .no, .no, .no, .no, .no, .no, .no]) := by
      simp [r5]
    simp only [e5, Option.bind_some]
    simp
  | cons x L =>
    have mx := (hmem x).mp (by simp)
    have e5 : r5 [.pin (pot a2 s2 c2), I' m, S' w, .v (.ls (sgs (x :: L))), .no, .no, .no, .no, .no, .no, .no, .no, .no, .no, .no, .no] = some (.nx [.pin (pot a2 s2 c2), I' m, S' w, .v (.ls (sgs (x :: L))), .no, .no, .no, .no, .no, .no, .no, .no, .no, .no, .no, .no]) := by
      have : (sgs (x :: L)).length = L.length + 1 := by simp
      generalize sgs (x :: L) = ls at this ⊢
      have q : ¬ ((L.length : Int) + 1 = 0) := by omega
      simp [r5, this, q]
    have e6 := r6_ok (.pin (pot a2 s2 c2)) (I' m) w hw x L
    have e7 := r7_ok (.pin (pot a2 s2 c2)) (I' m) (.v (.ls (sgs (x :: L)))) h mx.1 mx.2 [.no, .no, .no, .no, .no, .no, .no, .no, .no, .no, .no]
    have e8 : r8 [.pin (pot a2 s2 c2), I' m, S' w, .v (.ls (sgs (x :: L))), S' (wide x w), .no, .no, .no, .no, .no, .no, .no, .no, .no, .no, .no] = some (.nx [.pin (pot a2 s2 c2), I' m, S' w, .v (.ls (sgs (x :: L))), S' (wide x w), .v (.di []), .no, .no, .no, .no, .no, .no, .no, .no, .no, .no]) := by
      generalize sgs (x :: L) = ls
      simp [r8]
    obtain ⟨K, g, o, hKw, hKL, hg, hKn, hkl, e9⟩ := r9_ok (.pin (pot a2 s2 c2)) (I' m) (S' (wide x w)) h (x :: L) hlf hln
    have e10 := r10_ok (.pin (pot a2 s2 c2)) (I' m) (.v (.ls (sgs (x :: L)))) (S' (wide x w)) (lp o) (w := w) (K := K) (g := g) hw
    have hv := h.fm hg fun c m => ((hmem _).mp (hKL c m)).1
    have hdis : ∀ c ∈ w, c ∉ (w.filter fun c => decide (c ∈ K)).map g := fun c mc z => by
      obtain ⟨d, md, e⟩ := List.mem_map.mp z
      have := ((hmem _).mp (hKL d (by simpa using (List.mem_filter.mp md).2))).2
      rw [e] at this
      exact this mc
    generalize (w.filter fun c => decide (c ∈ K)).map g = v at e10 hv hdis
    have hb := h.app hv hdis
    have e11 := r11_ok (.pin (pot a2 s2 c2)) (I' m) (.v (.ls (sgs (x :: L)))) (S' (wide x w)) (.v (.di (rnK K g))) (lp o) hb [.no, .no, .no, .no, .no, .no]
    have hbl := hb.e
    have o1 := own_ok (w := w ++ v) (by omega)
    generalize hls : Sl.v (.ls (sgs (x :: L))) = x3 at e5 e6 e7 e8 e9 e10 e11
    generalize S' (wide x w) = x4 at e6 e7 e8 e9 e10 e11
    generalize Sl.v (.di (rnK K g)) = x5 at e9 e10 e11
    have e12 : r12 [.pin (pot a2 s2 c2), I' m, S' w, x3, x4, x5, lp o, S' v, S' (w ++ v), V' (.tup ((si (w ++ v)).map D.int)), .no, .no, .no, .no, .no, .no] = some (.nx [.pin (pot a2 s2 c2), I' m, S' w, x3, x4, x5, lp o, S' v, S' (w ++ v), V' (.tup ((si (w ++ v)).map D.int)), .v (.ls (sgs (ssort (w ++ v)))), .no, .no, .no, .no, .no]) := by
      generalize V' (.tup ((si (w ++ v)).map D.int)) = x9
      generalize sgs (ssort (w ++ v)) = ow at o1 ⊢
      generalize w ++ v = b at o1 ⊢
      simp [r12, o1]
    have f1 := sel_ok (.pin (pot a2 s2 c2)) (I' m) x3 x4 x5 (lp o) .no .no .no w v w 2 (.inl ⟨rfl, rfl⟩) hb e__law_turn_4 rfl
    rw [si_appL h hv hb hdis] at f1
    have f2 := sel_ok (.pin (pot a2 s2 c2)) (I' m) x3 x4 x5 (lp o) (.v (.ls ((si w).map D.int))) .no .no w v v 7 (.inr ⟨rfl, rfl⟩) hb e__law_turn_5 rfl
    rw [si_appR h hv hb hdis] at f2
    have l1 : (ssort (w ++ v)).length ≤ 24 := by have := ssort_len (w ++ v); omega
    have l2 : rgOk ((ssort (w ++ v)).length : Int) = true := rgOk_nat (by omega)
    have l3 : (ssort (w ++ v)).length ≤ big := by rw [big_is]; omega
    have l4 := sgs_len (ssort (w ++ v))
    have e13 : r13 [.pin (pot a2 s2 c2), I' m, S' w, x3, x4, x5, lp o, S' v, S' (w ++ v), V' (.tup ((si (w ++ v)).map D.int)), .v (.ls (sgs (ssort (w ++ v)))), .no, .no, .no, .no, .no] = some (.nx [.pin (pot a2 s2 c2), I' m, S' w, x3, x4, x5, lp o, S' v, S' (w ++ v), V' (.tup ((si (w ++ v)).map D.int)), .v (.ls (sgs (ssort (w ++ v)))), .v (.ls ((si w).map D.int)), .no, .no, .no, .no]) := by
      generalize V' (.tup ((si (w ++ v)).map D.int)) = x9 at f1 ⊢
      generalize (si w).map D.int = d1 at f1 ⊢
      generalize sgs (ssort (w ++ v)) = ow at f1 l4 ⊢
      generalize (ssort (w ++ v)).length = n at f1 l2 l3 l4
      simp [r13, l4, l2, rgD_length, l3, wipeS, f1, back]
    have e14 : r14 [.pin (pot a2 s2 c2), I' m, S' w, x3, x4, x5, lp o, S' v, S' (w ++ v), V' (.tup ((si (w ++ v)).map D.int)), .v (.ls (sgs (ssort (w ++ v)))), .v (.ls ((si w).map D.int)), .no, .no, .no, .no] = some (.nx [.pin (pot a2 s2 c2), I' m, S' w, x3, x4, x5, lp o, S' v, S' (w ++ v), V' (.tup ((si (w ++ v)).map D.int)), .v (.ls (sgs (ssort (w ++ v)))), .v (.ls ((si w).map D.int)), .v (.ls ((si v).map D.int)), .no, .no, .no]) := by
      generalize V' (.tup ((si (w ++ v)).map D.int)) = x9 at f2 ⊢
      generalize (si w).map D.int = d1 at f2 ⊢
      generalize (si v).map D.int = d2 at f2 ⊢
      generalize sgs (ssort (w ++ v)) = ow at f2 l4 ⊢
      generalize (ssort (w ++ v)).length = n at f2 l2 l3 l4
      simp [r14, l4, l2, rgD_length, l3, wipeS, f2, back]
    have t1 := asked_ok hb
    have t2 := seats_ok h
    have t3 := seats_ok hv
    have t4 := same_ints (si w) (by have := si_len h; omega)
    have t5 := same_ints (si v) (by have := si_len hv; omega)
    have e15 : r15 [.pin (pot a2 s2 c2), I' m, S' w, x3, x4, x5, lp o, S' v, S' (w ++ v), V' (.tup ((si (w ++ v)).map D.int)), .v (.ls (sgs (ssort (w ++ v)))), .v (.ls ((si w).map D.int)), .v (.ls ((si v).map D.int)), .no, .no, .no] = some (.rt (.p (.bl true)) [.pin (pot a2 s2 c2), I' m, S' w, x3, x4, x5, lp o, S' v, S' (w ++ v), V' (.tup ((si (w ++ v)).map D.int)), .v (.ls (sgs (ssort (w ++ v)))), .v (.ls ((si w).map D.int)), .v (.ls ((si v).map D.int)), .no, .no, .no]) := by
      generalize V' (.tup ((si (w ++ v)).map D.int)) = x9
      generalize (si w).map D.int = d1 at t2 t4 ⊢
      generalize (si v).map D.int = d2 at t3 t5 ⊢
      generalize sgs (ssort (w ++ v)) = ow
      generalize w ++ v = b at t1 ⊢
      simp [r15, t1, t2, t3, t4, t5, cTuple]
    rw [hls] at *
    simp only [e5, e6, e7, e8, e9, e10, e11, e12, e13, e14, e15, Option.bind_some]
    simp
end W_bandhems_k59_seats_gaps_and_stabs

/-! K59B: stabs by own going. -/
namespace W_bandhems_k59_seats_gaps_and_stabs
open G
theorem cEq_ints (ns : List Int) : cEq (.lst (ns.map D.int)) (.lst []) = some (.bl (decide (ns = []))) := by
  have := ints_flat ns
  have e0 : D.ok (.lst (ns.map D.int)) = true := by
    simp only [D.ok, D.flat, D.dep, this.1, this.2, Bool.true_and]
    exact decide_eq_true (by decide)
  unfold cEq
  rw [e0]
  have e : D.ok (.lst []) = true := by decide
  rw [e]
  cases ns with
  | nil => rfl
  | cons c r => rfl
theorem cEq_sgs {xs : List Nat} (h : okS xs) : cEq (.lst (sgs xs)) (.lst []) = some (.bl (decide (xs = []))) := by
  unfold cEq
  rw [sgs_ok h]
  have e : D.ok (.lst []) = true := by decide
  rw [e]
  cases xs with
  | nil => rfl
  | cons c r => rfl
theorem sc_sgs (xs : List Nat) : scT (.ls (sgs xs)) = true := by
  show (xs.map fun c => D.str [c]).all scD = true
  rw [List.all_map, List.all_eq_true]
  exact fun x _ => rfl
/-- spans by their second ends are one row -/
theorem ord_uniq {u : List Nat} (h : Wd u) {l m : List Sp} (hl : ∀ x ∈ l, x ∈ SS u) (hm : ∀ x ∈ m, x ∈ SS u) (sl : l.Pairwise fun a b => a.2 < b.2) (sm : m.Pairwise fun a b => a.2 < b.2) (e : ∀ x ∈ SS u, x ∈ l ↔ x ∈ m) : l = m := by
  let φ : Nat → Sp := fun k => ((SS u).find? fun s => decide (s.2 = k)).getD (0, 0)
  have hφ : ∀ s ∈ SS u, φ s.2 = s := fun s ms => by
    show ((SS u).find? _).getD _ = _
    cases q : (SS u).find? fun t => decide (t.2 = s.2) with
    | none =>
      have := List.find?_eq_none.mp q s ms
      simp at this
    | some t =>
      have h1 := List.mem_of_find?_eq_some q
      have h2 := List.find?_some q
      simp only [decide_eq_true_eq] at h2
      by_cases ne : t = s
      · rw [ne]; rfl
      · exact absurd h2 (SS_ne h h1 ms ne).2.2.2
  have e1 : l.map (·.2) = m.map (·.2) := lt_uniq (List.pairwise_map.mpr sl) (List.pairwise_map.mpr sm) fun k => by
    rw [List.mem_map, List.mem_map]
    exact ⟨fun ⟨x, mx, ex⟩ => ⟨x, (e x (hl x mx)).mp mx, ex⟩, fun ⟨x, mx, ex⟩ => ⟨x, (e x (hm x mx)).mpr mx, ex⟩⟩
  have key : ∀ {l : List Sp}, (∀ x ∈ l, x ∈ SS u) → (l.map (·.2)).map φ = l := fun {l} hl => by
    rw [List.map_map]
    exact (List.map_congr_left fun x mx => hφ x (hl x mx)).trans (List.map_id _)
  rw [← key hl, ← key hm, e1]
theorem ordL_lt {w : List Nat} (h : Wd w) : (ordL (SS w)).Pairwise fun a b => a.2 < b.2 := ((ordL_asc (SS w)).and (ordL_nd (SS_nd h))).imp_of_mem fun {a b} ma mb k => by
  have := (SS_ne h (ordL_mem.mp ma) (ordL_mem.mp mb) k.2).2.2.2
  have := k.1
  omega
def prP (w : List Nat) (c : Nat) : D := .tup [.int (lq w c), .str [c]]
theorem rows_prP {w : List Nat} (h : Wd w) {l : List Nat} (hl : ∀ c ∈ l, c ∈ w) : rowsK (l.map (prP w)) = true := by
  have hf : ∀ l : List Nat, (∀ c ∈ l, c ∈ w) → D.flats (l.map (prP w)) = true := by
    intro l
    induction l with
    | nil => intro _; rfl
    | cons c l ih =>
      intro hc
      have hs := ok_str (okS_one (h.ow c (hc c (by simp))))
      simp only [D.ok, Bool.and_eq_true] at hs
      have ih := ih fun d m => hc d (by simp [m])
      show (D.flat (prP w c) && D.flats (l.map (prP w))) = true
      rw [ih]
      show ((D.flat (.int (lq w c)) && (D.flat (.str [c]) && true)) && true) = true
      rw [hs.1]
      rfl
  cases l with
  | nil => rfl
  | cons c l =>
    rw [List.map_cons]
    show rowK (prP w c) (l.map (prP w)) = true
    have := hf (c :: l) hl
    unfold rowK
    rw [Bool.and_eq_true, Bool.and_eq_true, Bool.and_eq_true]
    refine ⟨⟨⟨rfl, ?_⟩, ?_⟩, this⟩
    · rw [List.all_map, List.all_eq_true]
      exact fun x _ => rfl
    · rw [List.all_map, List.all_eq_true]
      intro x _
      show ((l.map (prP w)).all fun z => D.alk (prP w x) z) = true
      rw [List.all_map, List.all_eq_true]
      exact fun y _ => rfl
theorem lq_inj {w : List Nat} (h : Wd w) {c d : Nat} (mc : c ∈ w) (md : d ∈ w) (e : lq w c = lq w d) : c = d := by
  rw [← ch_lq h mc, ← ch_lq h md, e]
theorem sorted_ends {w : List Nat} (h : Wd w) : ((fcl w).map (prP w)).mergeSort leD = (ordL (SS w)).map fun s => .tup [.int (s.2 : Nat), .str [lr w s]] := by
  have hm : ∀ c ∈ fcl w, c ∈ w := fun c m => (mem_fcl c w).mp m
  have e1 := List.map_mergeSort (r := fun a b : Nat => decide (lq w a ≤ lq w b)) (s := leD) (f := prP w) (l := fcl w) (fun a ma b mb => by
    have ha := hm a ma
    have hb := hm b mb
    show decide (lq w a ≤ lq w b) = !D.lt (prP w b) (prP w a)
    by_cases q : a = b
    · subst q
      simp [prP, D.lt, D.e1, D.l1]
    · have q1 : ¬ (lq w b : Int) = lq w a := fun e => q (lq_inj h ha hb (by omega))
      have q2 : D.lt (prP w b) (prP w a) = decide ((lq w b : Int) < lq w a) := by
        show (if D.e1 (.int (lq w b)) (.int (lq w a)) = true then _ else D.l1 (.int (lq w b)) (.int (lq w a))) = _
        rw [if_neg (by simp only [D.e1, decide_eq_true_eq]; exact q1)]
        rfl
      rw [q2]
      by_cases z : lq w a ≤ lq w b
      · have : ¬ (lq w b : Int) < lq w a := by omega
        simp [z, this]
      · have : (lq w b : Int) < lq w a := by omega
        simp [z, this])
  rw [← e1]
  have e2 : ((fcl w).mergeSort fun a b : Nat => decide (lq w a ≤ lq w b)).map (sp w) = ordL (SS w) := by
    have hperm := List.mergeSort_perm (fcl w) fun a b : Nat => decide (lq w a ≤ lq w b)
    have hasc := List.pairwise_mergeSort (le := fun a b : Nat => decide (lq w a ≤ lq w b)) (fun a b c h1 h2 => by simp at *; omega) (fun a b => by simp; omega) (fcl w)
    have hnd := hperm.nodup_iff.mpr (fcl_nd w)
    have hmm : ∀ c, c ∈ (fcl w).mergeSort (fun a b : Nat => decide (lq w a ≤ lq w b)) ↔ c ∈ w := fun c => by rw [List.mem_mergeSort, mem_fcl]
    generalize (fcl w).mergeSort (fun a b : Nat => decide (lq w a ≤ lq w b)) = l at hasc hnd hmm
    refine ord_uniq h (fun x mx => ?_) (fun x mx => ordL_mem.mp mx) (List.pairwise_map.mpr ((hasc.and hnd).imp_of_mem fun {a b} ma mb k => ?_)) (ordL_lt h) fun x mx => ⟨fun _ => ordL_mem.mpr mx, fun _ => ?_⟩
    · obtain ⟨c, mc, rfl⟩ := List.mem_map.mp mx
      exact sp_SS ((hmm c).mp mc)
    · have h1 := of_decide_eq_true k.1
      have h2 : lq w a ≠ lq w b := fun e => k.2 (lq_inj h ((hmm a).mp ma) ((hmm b).mp mb) e)
      show lq w a < lq w b
      omega
    · obtain ⟨c, mc, rfl⟩ := mem_SS mx
      exact List.mem_map.mpr ⟨c, (hmm c).mpr mc, rfl⟩
  rw [← e2, List.map_map]
  refine List.map_congr_left fun c mc => ?_
  have mc' : c ∈ w := (mem_fcl c w).mp (List.mem_mergeSort.mp mc)
  show prP w c = .tup [.int (lq w c : Nat), .str [lr w (sp w c)]]
  rw [lr_sp h mc']
  rfl
theorem keys_spK (w : List Nat) : keysD (spK w) = (fcl w).map fun c => .str [c] := by
  unfold keysD spK
  rw [List.map_map]
  rfl
/-- no gap that was told is met: the program's own look -/
theorem no_gap {O : List Sp} {s : Sp} (hs : St O (STBp O)) (ha : ∀ t ∈ O, t.2 ≤ s.2) : (((STBp O).1.filter fun t => decide ((s.1 : Int) ≤ (t.2 : Int) - 1) && decide ((t.2 : Int) - 1 < (s.2 : Int))) = []) ↔ (STBp O).2 < s.1 := by
  rw [List.filter_eq_nil_iff]
  constructor
  · intro q
    rcases hs.e with e | ⟨t, mt, e⟩
    · omega
    · have h1 := q t mt
      have h2 := ha t (hs.m t mt)
      rw [Bool.and_eq_true, decide_eq_true_eq, decide_eq_true_eq] at h1
      rw [e]
      by_cases z : (s.1 : Int) ≤ (t.2 : Int) - 1
      · exact absurd ⟨z, by omega⟩ h1
      · omega
  · intro q t mt
    have := hs.l t mt
    rw [Bool.and_eq_true, decide_eq_true_eq, decide_eq_true_eq]
    omega
theorem law_stabbed_ok {w : List Nat} (h : Wd w) : ap m__law_stabbed [.str w] = some (.p (.tup [.tup ((sbI w).map D.int), .str (side w)])) := by
  have hw := h.e
  have hsp := fun {c : Nat} (m : c ∈ w) => span_at h m
  have e1 := law_spans_ok w (by omega)
  have hk := keys_spK w
  have hfl := fcl_len w
  generalize spK w = kvs at hsp e1 hk
  have e2 := lcF_mp (own := [6]) (h := hName 6) (ifs := bYes) (elt := e__law_stabbed_1) (ρ := [S' w, .v (.p (.dic kvs)), .v (.ls []), .v (.ls []), .no, .no, .no, .no]) (fun c => .str [c]) (prP w) (xs := fcl w) (by
    intro c mc
    have e3 := hsp ((mem_fcl c w).mp mc)
    have g2 : 2 ≤ big := by decide
    exact ⟨[S' w, .v (.p (.dic kvs)), .v (.ls []), .v (.ls []), .no, .no, S' [c], .no], [S' w, .v (.p (.dic kvs)), .v (.ls []), .v (.ls []), .no, .no, S' [c], .no], .val (prP w c), [S' w, .v (.p (.dic kvs)), .v (.ls []), .v (.ls []), .no, .no, S' [c], .no], by simp, rfl, by simp [e__law_stabbed_1, e3, endT, g2, prP], by simp, by simp [wipeS]⟩)
  rw [← hk] at e2
  have e3 : cSortDt [.lst ((fcl w).map (prP w))] = some ((ordL (SS w)).map fun s => .tup [.int (s.2 : Nat), .str [lr w s]]) := by
    show (if rowsK ((fcl w).map (prP w)) = true then some (((fcl w).map (prP w)).mergeSort leD) else none) = _
    rw [if_pos (rows_prP h fun c m => (mem_fcl c w).mp m), sorted_ends h]
  have hO := ordL_nd (SS_nd h)
  have hm : ∀ s ∈ ordL (SS w), s ∈ SS w := fun s m => ordL_mem.mp m
  have hasc := ordL_asc (SS w)
  have hST : STB (SS w) = (STBp (ordL (SS w))).1 := rfl
  generalize ordL (SS w) = O at e3 hO hm hasc hST
  obtain ⟨ρ', e5, o4, o5, rfl⟩ := forF_rel (h := hTup 2 (hCons (hName 4) (hCons (hName 5) hNil))) (b := l__law_stabbed_3) (ds := O.map fun s => D.tup [.int (s.2 : Nat), .str [lr w s]]) (ρ := [S' w, .v (.p (.dic kvs)), .v (.ls []), .v (.ls []), .no, .no, .no, .no])
    (fun i ρ => ∃ o4 o5, ρ = [S' w, .v (.p (.dic kvs)), .v (.ls (((STBp (O.take i)).1.map fun t => (t.2 : Int) - 1).map D.int)), .v (.ls (sgs ((STBp (O.take i)).1.map (lr w)))), lp o4, lp o5, .no, .no]) ⟨none, none, rfl⟩ (by
    rintro i hi _ ⟨o4, o5, rfl⟩
    have hi2 : i < O.length := by simpa using hi
    have hg : (O.map fun s => D.tup [.int (s.2 : Nat), .str [lr w s]])[i] = .tup [.int (O[i].2 : Nat), .str [lr w O[i]]] := by simp
    have hl : (STBp (O.take i)).1.length ≤ 24 := by
      have h1 := ((STBp_sub (O.take i)).trans (List.take_sublist i O))
      have h2 := nd_len (hO.sublist h1) (m := SS w) fun x m => hm x (h1.subset m)
      have := SS_len h
      omega
    have hsr : St (O.take i) (STBp (O.take i)) := st_run _ _ rfl (hasc.sublist (List.take_sublist i O)) fun s m => (SS_lt h (hm s (List.mem_of_mem_take m))).1
    have hle : ∀ t ∈ O.take i, t.2 ≤ O[i].2 := fun t mt => by
      have h1 := hasc.sublist (List.take_sublist (i + 1) O)
      rw [take_snoc hi2] at h1
      have := (List.pairwise_append.mp h1).2.2 t mt O[i] (by simp)
      omega
    have hng := no_gap hsr hle
    rw [hg, take_snoc hi2, STBp_snoc]
    have ms := hm _ (List.getElem_mem hi2)
    generalize O[i] = s at ms hng
    generalize STBp (O.take i) = fl at hl hng
    obtain ⟨found, last⟩ := fl
    have hend1 := hsp (lr_mem h ms)
    have hs1 : sp w (lr w s) = s := sp_lr h ms
    have he1 : endT w (lr w s) = .tup [.int s.1, .int s.2] := by
      unfold endT
      rw [show fp w (lr w s) = s.1 from congrArg Prod.fst hs1, show lq w (lr w s) = s.2 from congrArg Prod.snd hs1]
    rw [he1] at hend1
    have e6 := lcF_fp (own := [7]) (h := hName 7) (ifs := (bOf (eChain cLe cLt (eIx (eIx (eVar 1) (eVar 5)) (eC (.int 0))) (eVar 7) (eVar 4)))) (elt := e__law_stabbed_2) (ρ := [S' w, .v (.p (.dic kvs)), .v (.p (.lst ((found.map fun t => (t.2 : Int) - 1).map D.int))), .v (.ls (sgs (found.map (lr w)))), I' (s.2 : Nat), S' [lr w s], .no, .no])
      (fun t : Sp => D.int ((t.2 : Int) - 1)) (fun t : Sp => D.int ((t.2 : Int) - 1)) (fun t => decide ((s.1 : Int) ≤ (t.2 : Int) - 1) && decide ((t.2 : Int) - 1 < (s.2 : Int))) (xs := found) (by
      intro t mt
      generalize (found.map fun t => (t.2 : Int) - 1).map D.int = gs
      refine ⟨[S' w, .v (.p (.dic kvs)), .v (.p (.lst gs)), .v (.ls (sgs (found.map (lr w)))), I' (s.2 : Nat), S' [lr w s], .no, I' ((t.2 : Int) - 1)], [S' w, .v (.p (.dic kvs)), .v (.p (.lst gs)), .v (.ls (sgs (found.map (lr w)))), I' (s.2 : Nat), S' [lr w s], .no, I' ((t.2 : Int) - 1)], by simp, ?_, fun _ => ⟨.val (.int ((t.2 : Int) - 1)), [S' w, .v (.p (.dic kvs)), .v (.p (.lst gs)), .v (.ls (sgs (found.map (lr w)))), I' (s.2 : Nat), S' [lr w s], .no, I' ((t.2 : Int) - 1)], by simp [e__law_stabbed_2], by simp, by simp [wipeS]⟩, fun _ => by simp [wipeS]⟩
      by_cases q : (s.1 : Int) ≤ (t.2 : Int) - 1
      · simp [hend1, q]
      · simp [hend1, q])
    have hu : found.map (fun t : Sp => D.int ((t.2 : Int) - 1)) = (found.map fun t => (t.2 : Int) - 1).map D.int := by rw [List.map_map]; rfl
    have hv : (found.filter fun t => decide ((s.1 : Int) ≤ (t.2 : Int) - 1) && decide ((t.2 : Int) - 1 < (s.2 : Int))).map (fun t : Sp => D.int ((t.2 : Int) - 1)) = ((found.filter fun t => decide ((s.1 : Int) ≤ (t.2 : Int) - 1) && decide ((t.2 : Int) - 1 < (s.2 : Int))).map fun t => (t.2 : Int) - 1).map D.int := by rw [List.map_map]; rfl
    rw [hu, hv] at e6
    have h7 := cEq_ints ((found.filter fun t => decide ((s.1 : Int) ≤ (t.2 : Int) - 1) && decide ((t.2 : Int) - 1 < (s.2 : Int))).map fun t => (t.2 : Int) - 1)
    have h8 : decide ((found.filter fun t => decide ((s.1 : Int) ≤ (t.2 : Int) - 1) && decide ((t.2 : Int) - 1 < (s.2 : Int))).map (fun t => (t.2 : Int) - 1) = []) = decide (last < s.1) := by
      rw [decide_eq_decide, List.map_eq_nil_iff]
      exact hng
    rw [h8] at h7
    have hsf := sc_ints ((found.filter fun t => decide ((s.1 : Int) ≤ (t.2 : Int) - 1) && decide ((t.2 : Int) - 1 < (s.2 : Int))).map fun t => (t.2 : Int) - 1)
    have hss := sc_sgs (found.map (lr w))
    generalize ((found.filter fun t => decide ((s.1 : Int) ≤ (t.2 : Int) - 1) && decide ((t.2 : Int) - 1 < (s.2 : Int))).map fun t => (t.2 : Int) - 1).map D.int = fs at e6 h7 hsf
    have hal : ((found ++ [s]).map fun t => (t.2 : Int) - 1).map D.int = (found.map fun t => (t.2 : Int) - 1).map D.int ++ [.int ((s.2 : Int) - 1)] := by simp
    have hap : sgs ((found ++ [s]).map (lr w)) = sgs (found.map (lr w)) ++ [.str [lr w s]] := by simp [sgs]
    have l1 : ((found.map fun t => (t.2 : Int) - 1).map D.int).length ≤ big := by rw [List.length_map, List.length_map, big_is]; dsimp only at hl; omega
    have l2 : ((found.map fun t => (t.2 : Int) - 1).map D.int).length < big := by rw [List.length_map, List.length_map, big_is]; dsimp only at hl; omega
    have l3 : (sgs (found.map (lr w))).length < big := by rw [sgs_len, List.length_map, big_is]; dsimp only at hl; omega
    have hst : stF (found, last) s = if last < s.1 then (found ++ [s], (s.2 : Int) - 1) else (found, last) := rfl
    rw [hst]
    have g0 : (0 : Nat) ≤ big := Nat.zero_le _
    by_cases q : last < s.1
    · refine ⟨[S' w, .v (.p (.dic kvs)), .v (.ls ((found.map fun t => (t.2 : Int) - 1).map D.int)), .v (.ls (sgs (found.map (lr w)))), I' (s.2 : Nat), S' [lr w s], .no, .no], [S' w, .v (.p (.dic kvs)), .v (.ls (((found ++ [s]).map fun t => (t.2 : Int) - 1).map D.int)), .v (.ls (sgs ((found ++ [s]).map (lr w)))), I' (s.2 : Nat), S' [lr w s], .no, .no], by simp, .inl ?_, some (.int (s.2 : Nat)), some (.str [lr w s]), by rw [if_pos q]; rfl⟩
      rw [hal, hap]
      generalize (found.map fun t => (t.2 : Int) - 1).map D.int = gs at e6 l1 l2
      generalize sgs (found.map (lr w)) = ss at e6 l3 hss
      simp [l__law_stabbed_3, seqD, l1, wipeS, e6, back, hsf, hss, g0, h7, q, isLs_ap, mApp, l2, l3]
    · refine ⟨[S' w, .v (.p (.dic kvs)), .v (.ls ((found.map fun t => (t.2 : Int) - 1).map D.int)), .v (.ls (sgs (found.map (lr w)))), I' (s.2 : Nat), S' [lr w s], .no, .no], [S' w, .v (.p (.dic kvs)), .v (.ls ((found.map fun t => (t.2 : Int) - 1).map D.int)), .v (.ls (sgs (found.map (lr w)))), I' (s.2 : Nat), S' [lr w s], .no, .no], by simp, .inl ?_, some (.int (s.2 : Nat)), some (.str [lr w s]), by rw [if_neg q]; rfl⟩
      generalize (found.map fun t => (t.2 : Int) - 1).map D.int = gs at e6 l1 l2
      generalize sgs (found.map (lr w)) = ss at e6 l3 hss
      simp [l__law_stabbed_3, seqD, l1, wipeS, e6, back, hsf, hss, g0, h7, q])
  rw [List.length_map, List.take_length, ← hST] at e5
  have hl := STB_len h
  have h6 := cSortX_sgs ((STB (SS w)).map (lr w)) (by rw [List.length_map]; omega)
  have h5 : nsort ((STB (SS w)).map (lr w)) = side w := rfl
  rw [h5] at h6
  have h3 := (nsort_perm ((STB (SS w)).map (lr w))).length_eq
  rw [List.length_map, h5] at h3
  have h4 := cJoin_sgs (side w) (by rw [h3, big_is]; omega)
  have hsb : (STB (SS w)).map (fun t => (t.2 : Int) - 1) = sbI w := rfl
  rw [hsb] at e5
  have g2 : 2 ≤ big := by decide
  have l1 : ((fcl w).map fun c => D.str [c]).length ≤ big := by rw [List.length_map, big_is]; omega
  rw [← hk] at l1
  generalize (sbI w).map D.int = bs at e5
  generalize sgs (side w) = ss at h4 h6
  generalize sgs ((STB (SS w)).map (lr w)) = rs at e5 h6
  generalize (fcl w).map (prP w) = ps at e2 e3
  generalize O.map (fun s => D.tup [.int (s.2 : Nat), .str [lr w s]]) = os at e3 e5
  rw [ap, m__law_stabbed, runD_ap]
  simp [b__law_stabbed, e1, l1, wipeS, e2, back, e3, seqD, e5, cTuple, h6, h4, g2]
end W_bandhems_k59_seats_gaps_and_stabs

/-! K59C: what is asked of stabs; words one behind another. -/
namespace W_bandhems_k59_seats_gaps_and_stabs
open G
theorem okS_side {w : List Nat} (h : Wd w) : okS (side w) := fun c m => h.ow c (by
  have := (nsort_perm _).mem_iff.mp m
  obtain ⟨s, ms, rfl⟩ := List.mem_map.mp this
  exact lr_mem h (STB_mem ms))
theorem side_mem' {w : List Nat} (h : Wd w) {c : Nat} (m : c ∈ side w) : c ∈ w ∧ sp w c ∈ STB (SS w) := by
  have := (nsort_perm _).mem_iff.mp m
  obtain ⟨s, ms, rfl⟩ := List.mem_map.mp this
  exact ⟨lr_mem h (STB_mem ms), by rw [sp_lr h (STB_mem ms)]; exact ms⟩
theorem side_len {w : List Nat} : (side w).length = (STB (SS w)).length := by
  have h3 := (nsort_perm ((STB (SS w)).map (lr w))).length_eq
  rw [List.length_map] at h3
  exact h3
theorem beside_ok {w : List Nat} {kvs : List (DK × D)} (hsp : ∀ {c : Nat}, c ∈ w → cIx (.dic kvs) (.str [c]) = some (endT w c)) {c d : Nat} (mc : c ∈ w) (md : d ∈ w) (r : R3 (sp w c) (sp w d)) : ap m__law_are_beside [.dic kvs, .str [c], .str [d]] = some (.p (.bl true)) := by
  have e1 := hsp mc
  have e2 := hsp md
  have r' : lq w c < fp w d ∨ lq w d < fp w c := r
  rw [ap, m__law_are_beside, runD_ap]
  by_cases q : lq w c < fp w d
  · simp [b__law_are_beside, e1, e2, endT, q]
  · have q2 : lq w d < fp w c := by omega
    simp [b__law_are_beside, e1, e2, endT, q, q2]
theorem stabs_asked_ok {w : List Nat} (h : Wd w) : ap m__law_stabs_asked [.str w] = some (.p (.bl true)) := by
  have hw := h.e
  have hsp := fun {c : Nat} (m : c ∈ w) => span_at h m
  have e1 := law_spans_ok w (by omega)
  have e2 := law_stabbed_ok h
  have hk := keys_spK w
  have hfl := fcl_len w
  have a1 := stabs_ok h
  have a2 := side_ok h
  have s1 := same_ints (sbI w) (by have := sbI_len h; omega)
  have s2 := same_str 3 (okS_side h)
  generalize spK w = kvs at hsp e1 hk
  have hc := (st_ok h).c
  have e3 := lcF_mp (own := [3]) (h := hName 3) (ifs := bYes) (elt := e__law_stabs_asked_2) (ρ := [S' w, .v (.p (.tup [.tup ((sbI w).map D.int), .str (side w)])), .v (.p (.dic kvs)), .no, .no, .no, .no]) (fun c => .str [c]) (fun c => .bl true) (xs := fcl w) (by
    intro c mc
    have mc' := (mem_fcl c w).mp mc
    have e4 := hsp mc'
    obtain ⟨t, mt, t1, t2⟩ := hc (sp w c) (ordL_mem.mpr (sp_SS mc'))
    have e5 := lcF_fp (own := [5]) (h := hName 5) (ifs := (bOf (eChain cLe cLt (eIx (eIx (eVar 2) (eVar 3)) (eC (.int 0))) (eVar 5) (eIx (eIx (eVar 2) (eVar 3)) (eC (.int 1)))))) (elt := e__law_stabs_asked_1) (ρ := [S' w, .v (.p (.tup [.tup ((sbI w).map D.int), .str (side w)])), .v (.p (.dic kvs)), S' [c], .no, .no, .no]) D.int D.int (fun g => decide ((fp w c : Int) ≤ g) && decide (g < (lq w c : Int))) (xs := sbI w) (by
      intro g mg
      generalize D.tup [.tup ((sbI w).map D.int), .str (side w)] = dt
      refine ⟨[S' w, .v (.p dt), .v (.p (.dic kvs)), S' [c], .no, I' g, .no], [S' w, .v (.p dt), .v (.p (.dic kvs)), S' [c], .no, I' g, .no], by simp, ?_, fun _ => ⟨.val (.int g), [S' w, .v (.p dt), .v (.p (.dic kvs)), S' [c], .no, I' g, .no], by simp [e__law_stabs_asked_1], by simp, by simp [wipeS]⟩, fun _ => by simp [wipeS]⟩
      by_cases q : (fp w c : Int) ≤ g
      · simp [e4, endT, q]
      · simp [e4, endT, q])
    have hne : (sbI w).filter (fun g => decide ((fp w c : Int) ≤ g) && decide (g < (lq w c : Int))) ≠ [] := fun z => by
      have := List.filter_eq_nil_iff.mp z ((t.2 : Int) - 1) (List.mem_map.mpr ⟨t, mt, rfl⟩)
      rw [Bool.and_eq_true, decide_eq_true_eq, decide_eq_true_eq] at this
      exact this ⟨t1, t2⟩
    have e6 := cNe_ints ((sbI w).filter fun g => decide ((fp w c : Int) ≤ g) && decide (g < (lq w c : Int)))
    rw [decide_eq_true hne] at e6
    have l1 : ((sbI w).map D.int).length ≤ big := by rw [List.length_map, big_is]; have := sbI_len h; omega
    have hix : cIx (.tup [.tup ((sbI w).map D.int), .str (side w)]) (.int 0) = some (.tup ((sbI w).map D.int)) := by simp
    generalize ((sbI w).filter fun g => decide ((fp w c : Int) ≤ g) && decide (g < (lq w c : Int))).map D.int = fs at e5 e6
    have g0 : (0 : Nat) ≤ big := Nat.zero_le _
    generalize (sbI w).map D.int = ds at e5 l1 hix
    generalize D.tup [.tup ds, .str (side w)] = dt at e5 hix
    refine ⟨[S' w, .v (.p dt), .v (.p (.dic kvs)), S' [c], .no, .no, .no], [S' w, .v (.p dt), .v (.p (.dic kvs)), S' [c], .no, .no, .no], .val (.bl true), [S' w, .v (.p dt), .v (.p (.dic kvs)), S' [c], .no, .no, .no], by simp, rfl, ?_, by simp, by simp [wipeS]⟩
    simp [-cIx_tup, e__law_stabs_asked_2, hix, seqD, l1, wipeS, e5, back, g0, e6])
  rw [← hk] at e3
  have e4 := cAll_map (fun _ : Nat => true) (fcl w)
  have e5 : ((fcl w).all fun _ => true) = true := by simp
  rw [e5] at e4
  have f3 := lcF_mp (own := [4]) (h := hName 4) (ifs := bYes) (elt := e__law_stabs_asked_4) (ρ := [S' w, .v (.p (.tup [.tup ((sbI w).map D.int), .str (side w)])), .v (.p (.dic kvs)), .no, .no, .no, .no]) (fun c => .str [c]) (fun c => .bl true) (xs := side w) (by
    intro d md
    obtain ⟨md', mds⟩ := side_mem' h md
    have f4 := lcF_fp (own := [6]) (h := hName 6) (ifs := (bAnd (bOf (eOp cNe (eVar 6) (eVar 4))) (bNot (bOf (eFrz (nCall 3 m__law_are_beside (aCons (eKeep 2) (aCons (eKeep 6) (aCons (eKeep 4) aNil))))))))) (elt := e__law_stabs_asked_3) (ρ := [S' w, .v (.p (.tup [.tup ((sbI w).map D.int), .str (side w)])), .v (.p (.dic kvs)), .no, S' [d], .no, .no]) (fun c => .str [c]) (fun c => .str [c]) (fun _ => false) (xs := side w) (by
      intro c mc
      obtain ⟨mc', mcs⟩ := side_mem' h mc
      have n1 := ne_one (h.ow c mc') (h.ow d md')
      generalize D.tup [.tup ((sbI w).map D.int), .str (side w)] = dt
      refine ⟨[S' w, .v (.p dt), .v (.p (.dic kvs)), .no, S' [d], .no, S' [c]], [S' w, .v (.p dt), .v (.p (.dic kvs)), .no, S' [d], .no, S' [c]], by simp, ?_, (fun z => (nomatch z)), fun _ => by simp [wipeS]⟩
      by_cases q : c = d
      · subst q
        have n2 : cNe (.str [c]) (.str [c]) = some (.bl false) := by simpa using n1
        simp [n2]
      · have r := (stb_lot h).r _ mcs _ mds fun e => q (by rw [← lr_sp h mc', ← lr_sp h md', e])
        have e6 := beside_ok hsp mc' md' r
        simp [n1, q, e6])
    have hf : (side w).filter (fun _ => false) = [] := by simp
    rw [hf] at f4
    have e6 := cEq_sgs (xs := []) fun c m => nomatch m
    have hix : cIx (.tup [.tup ((sbI w).map D.int), .str (side w)]) (.int 1) = some (.str (side w)) := by simp
    have l1 : (side w).length ≤ big := by rw [side_len, big_is]; have := STB_len h; omega
    have g0 : (0 : Nat) ≤ big := Nat.zero_le _
    generalize D.tup [.tup ((sbI w).map D.int), .str (side w)] = dt at f4 hix
    refine ⟨[S' w, .v (.p dt), .v (.p (.dic kvs)), .no, S' [d], .no, .no], [S' w, .v (.p dt), .v (.p (.dic kvs)), .no, S' [d], .no, .no], .val (.bl true), [S' w, .v (.p dt), .v (.p (.dic kvs)), .no, S' [d], .no, .no], by simp, rfl, ?_, by simp, by simp [wipeS]⟩
    have e6' : cEq (.lst []) (.lst []) = some (.bl true) := e6
    simp [-cIx_tup, e__law_stabs_asked_4, hix, seqD, l1, wipeS, f4, back, g0, e6'])
  have f4 := cAll_map (fun _ : Nat => true) (side w)
  have f5 : ((side w).all fun _ => true) = true := by simp
  rw [f5] at f4
  have hix0 : cIx (.tup [.tup ((sbI w).map D.int), .str (side w)]) (.int 0) = some (.tup ((sbI w).map D.int)) := by simp
  have hix1 : cIx (.tup [.tup ((sbI w).map D.int), .str (side w)]) (.int 1) = some (.str (side w)) := by simp
  have l1 : (side w).length ≤ big := by rw [side_len, big_is]; have := STB_len h; omega
  have l2 : ((sbI w).map D.int).length = (side w).length := by rw [side_len, List.length_map, sbI, List.length_map]
  have l3 : (keysD kvs).length ≤ big := by rw [hk, List.length_map, big_is]; omega
  generalize (fcl w).map (fun _ => D.bl true) = bs at e3 e4
  generalize (side w).map (fun _ => D.bl true) = cs at f3 f4
  generalize (sbI w).map D.int = ds at e2 a1 s1 e3 f3 hix0 hix1 l2
  generalize D.tup [.tup ds, .str (side w)] = dt at e2 e3 f3 hix0 hix1
  rw [ap, m__law_stabs_asked, runD_ap]
  simp [-cIx_tup, b__law_stabs_asked, e1, e2, a1, a2, pm, hix0, hix1, s1, s2, l3, wipeS, e3, back, e4, l1, l2, seqD, f3, f4]
/-! stabs of words one behind another -/
def shf (n : Nat) (s : Sp) : Sp := (s.1 + n, s.2 + n)
theorem SS_appR {w v : List Nat} (h : Wd w) (g : Wd v) (b : Wd (w ++ v)) {c : Nat} (m : c ∈ v) : sp (w ++ v) c = shf w.length (sp v c) := by
  rw [sp_appR g b m]
  show (w.length + fp v c, w.length + lq v c) = (fp v c + w.length, lq v c + w.length)
  rw [Nat.add_comm, Nat.add_comm (w.length)]
theorem ordL_app {w v : List Nat} (h : Wd w) (g : Wd v) (b : Wd (w ++ v)) : ordL (SS (w ++ v)) = ordL (SS w) ++ (ordL (SS v)).map (shf w.length) := by
  have mL : ∀ s ∈ SS w, s ∈ SS (w ++ v) := fun s ms => by
    obtain ⟨c, mc, rfl⟩ := mem_SS ms
    rw [← sp_appL h b mc]
    exact sp_SS (List.mem_append_left _ mc)
  have mR : ∀ s ∈ SS v, shf w.length s ∈ SS (w ++ v) := fun s ms => by
    obtain ⟨c, mc, rfl⟩ := mem_SS ms
    rw [← SS_appR h g b mc]
    exact sp_SS (List.mem_append_right _ mc)
  refine ord_uniq b (fun x mx => ordL_mem.mp mx) (fun x mx => ?_) (ordL_lt b) ?_ fun x mx => ⟨fun _ => ?_, fun _ => ordL_mem.mpr mx⟩
  · rcases List.mem_append.mp mx with m | m
    · exact mL x (ordL_mem.mp m)
    · obtain ⟨s, ms, rfl⟩ := List.mem_map.mp m
      exact mR s (ordL_mem.mp ms)
  · refine List.pairwise_append.mpr ⟨ordL_lt h, List.pairwise_map.mpr ((ordL_lt g).imp fun {a b} k => by show a.2 + w.length < b.2 + w.length; omega), fun x mx y my => ?_⟩
    obtain ⟨s, ms, rfl⟩ := List.mem_map.mp my
    have := SS_lt h (ordL_mem.mp mx)
    show x.2 < s.2 + w.length
    omega
  · obtain ⟨c, mc, rfl⟩ := mem_SS mx
    rcases List.mem_append.mp mc with m | m
    · rw [sp_appL h b m]
      exact List.mem_append_left _ (ordL_mem.mpr (sp_SS m))
    · rw [SS_appR h g b m]
      exact List.mem_append_right _ (List.mem_map.mpr ⟨_, ordL_mem.mpr (sp_SS m), rfl⟩)
theorem stf_shf (n : Nat) (found : List Sp) (last : Int) (hl : last < n) : ∀ (O : List Sp), ((O.map (shf n)).foldl stF (found, last) = (found ++ (STBp O).1.map (shf n), if (STBp O).1 = [] then last else (STBp O).2 + n)) ∧ ((STBp O).1 = [] → (STBp O).2 = -1) := snoc_ind ⟨by simp [STBp], fun _ => rfl⟩ fun O s ⟨ih, i2⟩ => by
  rw [List.map_append, List.foldl_append, ih, STBp_snoc]
  generalize STBp O = p at i2
  obtain ⟨f, l⟩ := p
  have h1 : stF (f, l) s = if l < s.1 then (f ++ [s], (s.2 : Int) - 1) else (f, l) := rfl
  have h2 : ∀ (q : List Sp × Int), ([s].map (shf n)).foldl stF q = if q.2 < ((s.1 + n : Nat) : Int) then (q.1 ++ [shf n s], ((s.2 + n : Nat) : Int) - 1) else q := fun q => rfl
  rw [h1, h2]
  by_cases hf : f = []
  · subst hf
    have hl1 : l = -1 := i2 rfl
    subst hl1
    have c1 : (-1 : Int) < s.1 := by omega
    have c2 : last < ((s.1 + n : Nat) : Int) := by omega
    simp only [if_pos c1, List.map_nil, List.append_nil, List.nil_append, if_true]
    rw [if_pos c2]
    simp
    omega
  · have c : (l + n < ((s.1 + n : Nat) : Int)) ↔ l < s.1 := by omega
    by_cases q : l < s.1
    · have q' := c.mpr q
      simp only [if_pos q, if_neg hf]
      rw [if_pos q']
      simp
      omega
    · have q' : ¬ (l + n < ((s.1 + n : Nat) : Int)) := fun z => q (c.mp z)
      simp only [if_neg q, if_neg hf]
      rw [if_neg q']
      simp [hf]
theorem sbI_app {w v : List Nat} (h : Wd w) (g : Wd v) (b : Wd (w ++ v)) : sbI (w ++ v) = sbI w ++ (sbI v).map (· + (w.length : Int)) := by
  have hst := st_ok h
  have hlast : (STBp (ordL (SS w))).2 < w.length := by
    rcases hst.e with e | ⟨t, mt, e⟩
    · omega
    · have := SS_lt h (ordL_mem.mp (hst.m t mt))
      omega
  have e1 : STB (SS (w ++ v)) = STB (SS w) ++ (STB (SS v)).map (shf w.length) := by
    unfold STB
    rw [ordL_app h g b]
    have h3 := (stf_shf w.length (STBp (ordL (SS w))).1 (STBp (ordL (SS w))).2 hlast (ordL (SS v))).1
    have h4 : STBp (ordL (SS w) ++ (ordL (SS v)).map (shf w.length)) = ((ordL (SS v)).map (shf w.length)).foldl stF (STBp (ordL (SS w))) := by
      unfold STBp
      rw [List.foldl_append]
    rw [h4]
    have h5 : STBp (ordL (SS w)) = ((STBp (ordL (SS w))).1, (STBp (ordL (SS w))).2) := rfl
    rw [h5, h3]
  unfold sbI
  rw [e1, List.map_append, List.map_map, List.map_map]
  congr 1
  refine List.map_congr_left fun s ms => ?_
  show (((s.2 + w.length : Nat) : Int)) - 1 = (s.2 : Int) - 1 + w.length
  omega
end W_bandhems_k59_seats_gaps_and_stabs

/-! K59E: stabs' turn; the law's answer. -/
namespace W_bandhems_k59_seats_gaps_and_stabs
open G
def dup (xs : List Nat) : List Nat := xs.flatMap fun a => [a, a]
theorem jnL_dbl : ∀ xs : List Nat, jnL [] (xs.map fun a => [a, a]) = dup xs
  | [] => rfl
  | [c] => rfl
  | c :: d :: r => by
    have ih := jnL_dbl (d :: r)
    simp only [List.map_cons] at ih ⊢
    rw [jnL]
    rw [ih]; rfl
theorem sum_dbl : ∀ xs : List Nat, ((xs.map fun a => [a, a]).map (·.length)).sum = 2 * xs.length
  | [] => rfl
  | c :: r => by
    have := sum_dbl r
    simp only [List.map_cons, List.sum_cons, this, List.length_cons, List.length_nil]
    omega
theorem cJoin_dbl (xs : List Nat) (h : 2 * xs.length ≤ big) : cJoin [] (.lst (xs.map fun a => D.str [a, a])) = some (.str (dup xs)) := by
  simp only [cJoin, lstD, Option.bind_some, strL_mp fun a : Nat => [a, a], jnL_dbl, sum_dbl]
  rw [if_pos]
  simpa using h
theorem dup_perm : ∀ xs : List Nat, (dup xs).Perm (xs ++ xs)
  | [] => .refl _
  | c :: r => by
    have ih := dup_perm r
    show (c :: c :: dup r).Perm (c :: r ++ c :: r)
    rw [List.cons_append]
    refine List.Perm.cons c ?_
    exact (ih.cons c).trans List.perm_middle.symm
theorem six_perm (x y z : Nat) : [x, y, z, x, z, y].Perm ([x, y, z] ++ [x, y, z]) := by
  refine List.Perm.cons x (List.Perm.cons y (List.Perm.cons z (List.Perm.cons x ?_)))
  exact List.Perm.swap y z []
def u1 : Sm := (sAsg 1 (nCallO 2 0 m__law_word (aCons (eVar 0) (aCons (eFrz (nCallO 2 0 m__law_pick (aCons (eVar 0) (aCons (eFrz (nLst (aCons (eC (.int 0)) (aCons (eC (.int 1)) (aCons (eC (.int 2)) (aCons (eC (.int 4)) (aCons (eC (.int 7)) (aCons (eC (.int 12)) (aCons (eFrz (nCallO 2 0 m__law_take (aCons (eVar 0) (aCons (eC (.int 13)) aNil)))) aNil))))))))) aNil)))) aNil))))
def u2 : Sm := (sIf (bOr (bNot (bOf (eFrz (nCall 1 m__law_stabs_asked (aCons (eKeep 1) aNil))))) (bOr (bNot (bOf (eFrz (nCall 1 m__law_stabs_asked (aCons (eRevT (eVar 1)) aNil))))) (bOf (eOp cNe (eCb cLen (aCons (eFrz (nCall 1 m_stabs (aCons (eKeep 1) aNil))) aNil)) (eCb cLen (aCons (eFrz (nCall 1 m_stabs (aCons (eRevT (eVar 1)) aNil))) aNil)))))) (sRet (nVal (eC (.bl false)))) sNil)
def u3 : Sm := (sAsg 2 (nLc [5] (iSeq (eC (.str LET))) (hName 5) (bOf (eOp cNi (eVar 5) (eVar 1))) e__law_stabs_1))
def u4 : Sm := (sAsg 3 (nVal (eJoin (eC (.str [])) (eFrz (nLc [6] (iRng1 (aCons (eFrz (nCallO 2 0 m__law_take (aCons (eVar 0) (aCons (eOp cAdd (eCb cLen (aCons (eVar 2) aNil)) (eC (.int 1))) aNil)))) aNil)) (hName 6) bYes e__law_stabs_2)))))
def u5 : Sm := (sIf (bAnd (bOf (eOp cGt (eCb cLen (aCons (eVar 2) aNil)) (eC (.int 2)))) (bOf (eOp cEq (eFrz (nCallO 2 0 m__law_take (aCons (eVar 0) (aCons (eC (.int 2)) aNil)))) (eC (.int 0))))) (sAsg 3 (nVal (eOp cAdd (eOp cAdd (eOp cAdd (eOp cAdd (eOp cAdd (eIx (eVar 2) (eC (.int 0))) (eIx (eVar 2) (eC (.int 1)))) (eIx (eVar 2) (eC (.int 2)))) (eIx (eVar 2) (eC (.int 0)))) (eIx (eVar 2) (eC (.int 2)))) (eIx (eVar 2) (eC (.int 1)))))) sNil)
def u6 : Sm := (sAsg 4 (nCall 1 m_stabs (aCons (eOp cAdd (eVar 1) (eVar 3)) aNil)))
def u7 : Sm := (sRet (nVal (eAnd (eFrz (nCall 1 m__law_stabs_asked (aCons (eOp cAdd (eVar 1) (eVar 3)) aNil))) (eFrz (nCall 2 (m__law_same 4) (aCons (eKeep 4) (aCons (eOp cAdd (eFrz (nCall 1 m_stabs (aCons (eKeep 1) aNil))) (eCb cTuple (aCons (eFrz (nLc [7] (iSeq (eFrz (nCall 1 m_stabs (aCons (eKeep 3) aNil)))) (hName 7) bYes e__law_stabs_3)) aNil))) aNil)))))))
theorem stabs_split : b__law_stabs = sSeq u1 (sSeq u2 (sSeq u3 (sSeq u4 (sSeq u5 (sSeq u6 u7))))) := rfl
theorem u1_ok (a s c : Int) : ∃ a' s' c' w, Wd w ∧ u1 [.pin (pot a s c), .no, .no, .no, .no, .no, .no, .no] = some (.nx [.pin (pot a' s' c'), S' w, .no, .no, .no, .no, .no, .no]) := by
  obtain ⟨d, a1, s1, c1, hd, hd2, e1⟩ := take_ok a s c 13 (by omega) (by omega)
  obtain ⟨m, a2, s2, c2, hm, e2⟩ := pick_nat a1 s1 c1 [0, 1, 2, 4, 7, 12] d hd (by simp) (by simp)
  have hm12 : m ≤ 12 := by
    rcases hm with h | h
    · simp at h; omega
    · omega
  obtain ⟨a3, s3, c3, w, hw, _, e3⟩ := word_draw a2 s2 c2 m hm12
  refine ⟨a3, s3, c3, w, hw, ?_⟩
  have g8 : 7 ≤ big := by decide
  have e2' : m__law_pick [.pin (pot a1 s1 c1), .v (.p (.lst [.int 0, .int 1, .int 2, .int 4, .int 7, .int 12, .int d]))] = some (.p (nI m), [.pin (pot a2 s2 c2), .v (.p (.lst [.int 0, .int 1, .int 2, .int 4, .int 7, .int 12, .int d]))]) := e2
  simp [u1, argO_zero, refAt_zero, backO, e1, e2', e3, T.root, Sl.t, g8]
theorem u2_ok (x0 : Sl) {w : List Nat} (h : Wd w) (ρ : Rho) : u2 (x0 :: S' w :: ρ) = some (.nx (x0 :: S' w :: ρ)) := by
  have e1 := stabs_asked_ok h
  have e2 := stabs_asked_ok h.rev
  have e3 := stabs_ok h
  have e4 := stabs_ok h.rev
  have l : w.length ≤ big := by have := h.e; rw [big_is]; omega
  have l1 : ((sbI w).map D.int).length = N3 w := by rw [List.length_map, sbI, List.length_map]; rfl
  have l2 : ((sbI w.reverse).map D.int).length = N3 w := by rw [List.length_map, sbI, List.length_map]; exact N3_rev h
  generalize (sbI w).map D.int = d1 at e3 l1
  generalize (sbI w.reverse).map D.int = d2 at e4 l2
  simp [u2, e1, e2, e3, e4, l, l1, l2]
theorem u3_ok (x0 : Sl) (w : List Nat) : u3 [x0, S' w, .no, .no, .no, .no, .no, .no] = some (.nx [x0, S' w, .v (.ls (sgs (lft w))), .no, .no, .no, .no, .no]) := by
  have e := lcF_fp (own := [5]) (h := hName 5) (ifs := (bOf (eOp cNi (eVar 5) (eVar 1)))) (elt := e__law_stabs_1) (ρ := [x0, S' w, .no, .no, .no, .no, .no, .no]) (fun c => .str [c]) (fun c => .str [c]) (fun c => !decide (c ∈ w)) (xs := LET) (by
    intro c mc
    exact ⟨[x0, S' w, .no, .no, .no, S' [c], .no, .no], [x0, S' w, .no, .no, .no, S' [c], .no, .no], by simp, by simp, fun _ => ⟨.val (.str [c]), [x0, S' w, .no, .no, .no, S' [c], .no, .no], by simp [e__law_stabs_1], by simp, by simp [wipeS]⟩, fun _ => by simp [wipeS]⟩)
  have e7 : (LET.filter fun c => !decide (c ∈ w)).map (fun c => D.str [c]) = sgs (lft w) := rfl
  rw [e7] at e
  have l1 : LET.length ≤ big := by rw [big_is]; decide
  generalize sgs (lft w) = us at e ⊢
  generalize hl : LET = ll at e l1
  simp [u3, hl, seqD, l1, wipeS, e, back]
theorem u4_ok (a s c : Int) (w L : List Nat) (hL : L.length ≤ 12) : ∃ a' s' c' L', L'.Sublist L ∧ u4 [.pin (pot a s c), S' w, .v (.ls (sgs L)), .no, .no, .no, .no, .no] = some (.nx [.pin (pot a' s' c'), S' w, .v (.ls (sgs L)), S' (dup L'), .no, .no, .no, .no]) := by
  obtain ⟨k, a1, s1, c1, hk, e1⟩ := take_nat a s c (L.length + 1) (by omega) (by omega)
  refine ⟨a1, s1, c1, L.take k, List.take_sublist k L, ?_⟩
  have e1' : m__law_take [Sl.pin (pot a s c), I' ((L.length : Int) + 1)] = some (.p (.int k), [.pin (pot a1 s1 c1), I' ((L.length : Int) + 1)]) := by exact_mod_cast e1
  have e := lcF_mp (own := [6]) (h := hName 6) (ifs := bYes) (elt := e__law_stabs_2) (ρ := [.pin (pot a1 s1 c1), S' w, .v (.ls (sgs L)), .no, .no, .no, .no, .no]) (fun i : Nat => .int i) (fun i => D.str [L.getD i 0, L.getD i 0]) (xs := List.range k) (by
    intro i hi
    have hi' := List.mem_range.mp hi
    have hiL : i < L.length := by omega
    have g1 : (sgs L)[i]? = some (.str [L.getD i 0]) := by simp [sgs, List.getD, hiL]
    have g2 : 2 ≤ big := by decide
    generalize sgs L = ls at g1
    generalize L.getD i 0 = y at g1
    exact ⟨[.pin (pot a1 s1 c1), S' w, .v (.ls ls), .no, .no, .no, I' i, .no], [.pin (pot a1 s1 c1), S' w, .v (.ls ls), .no, .no, .no, I' i, .no], .val (.str [y, y]), [.pin (pot a1 s1 c1), S' w, .v (.ls ls), .no, .no, .no, I' i, .no], by simp, rfl, by simp [e__law_stabs_2, g1, g2], by simp, by simp [wipeS]⟩)
  rw [← rgD_mp] at e
  have h7 : (List.range k).map (fun i => D.str [L.getD i 0, L.getD i 0]) = (L.take k).map fun a => D.str [a, a] := by
    refine List.ext_getElem (by simp; omega) fun i h1 h2 => ?_
    have hiL : i < L.length := by simp at h2; omega
    simp [List.getD, hiL]
  rw [h7] at e
  have h8 := cJoin_dbl (L.take k) (by rw [List.length_take, big_is]; omega)
  have l1 : rgOk (k : Int) = true := rgOk_nat (by omega)
  have l2 : k ≤ big := by rw [big_is]; omega
  have l3 := sgs_len L
  generalize sgs L = ls at e l3
  generalize (L.take k).map (fun a => D.str [a, a]) = ds at e h8
  simp [u4, argO_zero, refAt_zero, backO, l3, e1', T.root, Sl.t, l1, rgD_length, l2, wipeS, e, back, h8]
theorem u5_ok (a s c : Int) (w L v : List Nat) (hL : L.length ≤ 12) (hn : L.Nodup) (hl : ∀ c ∈ L, c ∈ LET) (hv : Wd v) (hvL : ∀ c ∈ v, c ∈ L) : ∃ a' s' c' v', Wd v' ∧ (∀ c ∈ v', c ∈ L) ∧ u5 [.pin (pot a s c), S' w, .v (.ls (sgs L)), S' v, .no, .no, .no, .no] = some (.nx [.pin (pot a' s' c'), S' w, .v (.ls (sgs L)), S' v', .no, .no, .no, .no]) := by
  obtain ⟨d, a1, s1, c1, hd, hd2, e1⟩ := take_ok a s c 2 (by omega) (by omega)
  have l3 := sgs_len L
  by_cases q : 2 < L.length
  · by_cases qd : d = 0
    · match L, q, hn, hl, hvL, l3 with
      | x :: y :: z :: R, q, hn, hl, hvL, l3 =>
        refine ⟨a1, s1, c1, [x, y, z, x, z, y], drawn (names := [x, y, z]) ?_ (fun c m => hl c ?_) (six_perm x y z), fun c m => ?_, ?_⟩
        · exact hn.sublist (List.Sublist.cons₂ x (List.Sublist.cons₂ y (List.Sublist.cons₂ z (List.nil_sublist R))))
        · simp at m ⊢
          rcases m with m | m | m <;> simp [m]
        · simp at m ⊢
          rcases m with m | m | m | m | m | m <;> simp [m]
        · have hs : sgs (x :: y :: z :: R) = .str [x] :: .str [y] :: .str [z] :: sgs R := rfl
          rw [hs] at l3 ⊢
          have hr := sgs_len R
          generalize sgs R = rs at l3 hr
          have q' : (2 : Int) < (R.length : Int) + 1 + 1 + 1 := by omega
          have g2 : 2 ≤ big := by decide
          have g3 : 3 ≤ big := by decide
          have g4 : 4 ≤ big := by decide
          have g5 : 5 ≤ big := by decide
          have g6 : 6 ≤ big := by decide
          simp [u5, argO_zero, refAt_zero, backO, hr, q', e1, T.root, Sl.t, qd, g2, g3, g4, g5, g6]
    · refine ⟨a1, s1, c1, v, hv, hvL, ?_⟩
      have q' : (2 : Int) < L.length := by omega
      generalize sgs L = ls at l3
      simp [u5, argO_zero, refAt_zero, backO, l3, q', e1, T.root, Sl.t, qd]
  · refine ⟨a, s, c, v, hv, hvL, ?_⟩
    have q' : ¬ (2 : Int) < L.length := by omega
    generalize sgs L = ls at l3
    simp [u5, l3, q']
theorem u7_ok (x0 x2 : Sl) {w v : List Nat} (h : Wd w) (hv : Wd v) (hd : ∀ c ∈ w, c ∉ v) : u7 [x0, S' w, x2, S' v, V' (.tup ((sbI (w ++ v)).map D.int)), .no, .no, .no] = some (.rt (.p (.bl true)) [x0, S' w, x2, S' v, V' (.tup ((sbI (w ++ v)).map D.int)), .no, .no, .no]) := by
  have hb := h.app hv hd
  have e1 := stabs_asked_ok hb
  have e2 := stabs_ok h
  have e3 := stabs_ok hv
  have l := hb.e
  rw [List.length_append] at l
  have l1 : w.length + v.length ≤ big := by rw [big_is]; omega
  have l2 : w.length ≤ big := by rw [big_is]; omega
  have s1 := same_ints (sbI (w ++ v)) (by have := sbI_len hb; omega)
  have hap := sbI_app h hv hb
  have hap2 : (sbI (w ++ v)).map D.int = (sbI w).map D.int ++ ((sbI v).map (· + (w.length : Int))).map D.int := by rw [hap, List.map_append]
  have e := lcF_mp (own := [7]) (h := hName 7) (ifs := bYes) (elt := e__law_stabs_3) (ρ := [x0, S' w, x2, S' v, V' (.tup ((sbI (w ++ v)).map D.int)), .no, .no, .no]) D.int (fun g => D.int (g + w.length)) (xs := sbI v) (by
    intro g mg
    generalize (sbI (w ++ v)).map D.int = ds
    exact ⟨[x0, S' w, x2, S' v, V' (.tup ds), .no, .no, I' g], [x0, S' w, x2, S' v, V' (.tup ds), .no, .no, I' g], .val (.int (g + w.length)), [x0, S' w, x2, S' v, V' (.tup ds), .no, .no, I' g], by simp, rfl, by simp [e__law_stabs_3, l2], by simp, by simp [wipeS]⟩)
  have h7 : (sbI v).map (fun g => D.int (g + w.length)) = ((sbI v).map (· + (w.length : Int))).map D.int := by rw [List.map_map]; rfl
  rw [h7] at e
  have l3 : ((sbI v).map D.int).length ≤ big := by rw [List.length_map, big_is]; have := sbI_len hv; omega
  have l4 : ((sbI w).map D.int).length + (((sbI v).map (· + (w.length : Int))).map D.int).length ≤ big := by
    rw [List.length_map, List.length_map, List.length_map, big_is]
    have := sbI_len hv
    have := sbI_len h
    omega
  generalize (sbI (w ++ v)).map D.int = ds at s1 hap2 e ⊢
  generalize ((sbI v).map (· + (w.length : Int))).map D.int = d2 at hap2 e l4
  generalize (sbI w).map D.int = d1 at e2 hap2 l4
  generalize (sbI v).map D.int = d3 at e3 e l3
  subst hap2
  simp [u7, l1, e1, e2, e3, seqD, l3, wipeS, e, back, cTuple, l4, s1]
theorem stabs_turn_ok (a s c : Int) : ∃ a' s' c', m__law_stabs [.pin (pot a s c)] = some (.p (.bl true), [.pin (pot a' s' c')]) := by
  obtain ⟨a1, s1, c1, w, h, e1⟩ := u1_ok a s c
  have e2 := u2_ok (.pin (pot a1 s1 c1)) h [.no, .no, .no, .no, .no, .no]
  have e3 := u3_ok (.pin (pot a1 s1 c1)) w
  have hlf := lft_len w
  have hln := lft_nd w
  have hmem := fun c => mem_lft (w := w) (c := c)
  generalize lft w = L at hlf hln hmem e3
  obtain ⟨a2, s2, c2, L', hL', e4⟩ := u4_ok a1 s1 c1 w L hlf
  have hv1 : Wd (dup L') := drawn (hln.sublist hL') (fun c m => ((hmem c).mp (hL'.subset m)).1) (dup_perm L')
  have hv1L : ∀ c ∈ dup L', c ∈ L := fun c m => by
    have := (dup_perm L').mem_iff.mp m
    exact hL'.subset ((List.mem_append.mp this).elim id id)
  obtain ⟨a3, s3, c3, v, hv, hvL, e5⟩ := u5_ok a2 s2 c2 w L (dup L') hlf hln (fun c m => ((hmem c).mp m).1) hv1 hv1L
  have hd : ∀ c ∈ w, c ∉ v := fun c mc mv => ((hmem c).mp (hvL c mv)).2 mc
  have hb := h.app hv hd
  have l := hb.e
  rw [List.length_append] at l
  have l1 : w.length + v.length ≤ big := by rw [big_is]; omega
  have t1 := stabs_ok hb
  have e6 : u6 [.pin (pot a3 s3 c3), S' w, .v (.ls (sgs L)), S' v, .no, .no, .no, .no] = some (.nx [.pin (pot a3 s3 c3), S' w, .v (.ls (sgs L)), S' v, V' (.tup ((sbI (w ++ v)).map D.int)), .no, .no, .no]) := by
    generalize (sbI (w ++ v)).map D.int = ds at t1 ⊢
    generalize sgs L = ls
    simp [u6, l1, t1]
  have e7 := u7_ok (.pin (pot a3 s3 c3)) (.v (.ls (sgs L))) h hv hd
  have hr : ([.pin (pot a s c)] ++ List.replicate 7 Sl.no : Rho) = [.pin (pot a s c), .no, .no, .no, .no, .no, .no, .no] := rfl
  refine ⟨a3, s3, c3, ?_⟩
  rw [m__law_stabs, runD_ap, stabs_split, hr]
  simp only [sSeq_ap, e1, e2, e3, e4, e5, e6, e7, Option.bind_some]
  simp
theorem well_ok (ns : List Int) (hl : ns.length ≤ 63) (t : Nat) (ht : t < 100) : ∃ a s, ap m__law_well [.lst (ns.map .int), .int t] = some (pot a s 0) := by
  obtain ⟨cell, hc⟩ : ∃ cell, nIf (bOf (eOp cLt (eVar 1) (eCb cLen (aCons (eVar 0) aNil)))) (nVal (eCb cInt (aCons (eIx (eVar 0) (eVar 1)) aNil))) (nVal (eOp cAdd (eOp cAdd (eOp cMul (eC (.int 7919)) (eVar 1)) (eOp cMod (eCb cInt (aCons (eCb cSumX (aCons (eSl (eVar 0) oNone (oSome (eC (.int 3)))) aNil)) aNil)) (eC (.int 1000003)))) (eC (.int 29))))
      [.v (.p (.lst (ns.map .int))), I' t, .no, .no, .no] = some (.p (.int cell), [.v (.p (.lst (ns.map .int))), I' t, .no, .no, .no]) := by
    by_cases h : t < ns.length
    · refine ⟨ns[t], ?_⟩
      simp [h]
    · refine ⟨7919 * t + (cutD ns none (some 3)).sum % 1000003 + 29, ?_⟩
      have g1 : mulOk 7919 (t : Int) = true := mulOk_l (by decide)
      have h' : ¬ (t : Int) < ns.length := by omega
      have g2 : cSumX [.lst ((cutD ns none (some 3)).map .int)] = some (.int (cutD ns none (some 3)).sum) := by
        show (intL _).map _ = _
        have := intL_mp (fun i : Int => i) (cutD ns none (some 3))
        simp [this]
      simp only [nIf_ap, bOf_ap, eOp_ap, eVar_ap, eCb_ap, aCons_ap, aNil_ap, eSl_ap, oNone_ap, oSome_ap, eC_ap, nVal_ap]
      simp [h', g1, cSl, cutD_map, g2]
  obtain ⟨ρ', e, s, o, rfl⟩ := forF_rel (h := hName 4) (b := l__law_well_1) (ds := ((cutD ns none (some 6)) ++ [cell]).map D.int) (ρ := [.v (.p (.lst (ns.map .int))), I' t, I' cell, I' (40127 + 977 * t), .no])
      (fun i ρ => ∃ s o, ρ = [.v (.p (.lst (ns.map .int))), I' t, I' cell, I' s, lp o]) ⟨_, none, rfl⟩ (by
    rintro i hi _ ⟨s, o, rfl⟩
    rw [List.getElem_map]
    have g1 : ∀ x : Int, mulOk x 48271 = true := fun x => mulOk_r (by decide)
    generalize ((cutD ns none (some 6)) ++ [cell])[i]'(by simpa using hi) = x
    refine ⟨_, _, by simp; rfl, .inl ?_, (s * 48271 + x % 2147483399 + 53) % 2147483563, some (.int x), rfl⟩
    simp [l__law_well_1, g1])
  have g2 : mulOk 977 (t : Int) = true := mulOk_l (by decide)
  have g6 : (cutD ns none (some 6)).length + 1 ≤ big := by
    have := cutD_len ns none (some 6)
    rw [big_is]
    omega
  have g7 : 3 ≤ big := by decide
  have g8 : 1 ≤ big := by decide
  have g4 : cPow (.int 10) (.int 17) = some (.int (10 ^ 17)) := by simp [cPow]
  rw [List.map_append, List.map_cons, List.map_nil] at e
  refine ⟨if cell < 0 ∨ (10 : Int) ^ 17 ≤ cell then (if cell < 0 then -cell else cell) else 0, s, ?_⟩
  simp only [ap, m__law_well, runD_ap]
  simp only [b__law_well, sSeq_ap, sAsg_ap]
  simp only [slP_cons, slP_nil, List.replicate, List.cons_append, List.nil_append, hc]
  by_cases c1 : cell < 0
  · simp [g2, g4, g6, g7, g8, cSl, cutD_map, cAdd, seqD, c1, e]
  · by_cases c2 : (100000000000000000 : Int) ≤ cell
    · simp [g2, g4, g6, g7, g8, cSl, cutD_map, cAdd, seqD, c1, c2, e]
    · simp [g2, g4, g6, g7, g8, cSl, cutD_map, cAdd, seqD, c1, c2, e]
theorem law_true (ns : List Int) (hl : ns.length ≤ 63) : (m_law [.v (.p (.lst (ns.map .int)))]).map (·.1) = some (.p (.bl true)) := by
  obtain ⟨n, hn, hn2⟩ : ∃ n : Nat, n ≤ 8 ∧ (if (if (8 : Int) < ns.length then (8 : Int) else ns.length) > 5 then (if (8 : Int) < ns.length then (8 : Int) else ns.length) else 5) = n := by
    refine ⟨(if (if (8 : Int) < ns.length then (8 : Int) else ns.length) > 5 then (if (8 : Int) < ns.length then (8 : Int) else ns.length) else 5).toNat, ?_, ?_⟩ <;> split <;> split <;> omega
  obtain ⟨ρ', e, o1, o2, rfl⟩ := forF_rg (h := hName 1) (b := l_law_1) (lo := 0) (n := n) (ρ := [.v (.p (.lst (ns.map .int))), .no, .no]) (fun i ρ => ∃ o1 o2, ρ = [.v (.p (.lst (ns.map .int))), lp o1, lo o2]) ⟨none, none, rfl⟩ (by
    rintro i hi _ ⟨o1, o2, rfl⟩
    obtain ⟨a, s, e1⟩ := well_ok ns hl i (by omega)
    obtain ⟨a2, s2, c2, e2⟩ := turn_ok a s 0
    obtain ⟨a3, s3, c3, e3⟩ := stabs_turn_ok a2 s2 c2
    refine ⟨[.v (.p (.lst (ns.map .int))), I' i, lo o2], [.v (.p (.lst (ns.map .int))), I' i, .v (pot a3 s3 c3)], by simp, .inl ?_, some (.int i), some (pot a3 s3 c3), rfl⟩
    simp [l_law_1, e1, argO_zero, refAt_zero, backO, e2, e3, T.root, Sl.t])
  have g1 : rgOk (n : Int) = true := rgOk_of (by omega)
  simp only [m_law, runD_ap]
  simp [b_law, cMin2, cMax2, hn2, g1, e]
end W_bandhems_k59_seats_gaps_and_stabs

open PySem PySem.W PyProof.Rows
set_option maxHeartbeats 0 in
theorem PySem.Challenge.cw_bandhems_k59_seats_gaps_and_stabs_holds : PySem.Challenge.rw_bandhems_k59_seats_gaps_and_stabs.Holds := by
  w_on; o_law; k_head; (case hw => w_witness2)
  k_fill
  refine LamX.walk_ofTsE (l := PySem.Challenge.rw_bandhems_k59_seats_gaps_and_stabs) (n := 63) (k := 9) (x := "script") (CX := fun _ => L2.CX0) rfl (by decide) rfl ⟨rfl, by decide, by decide⟩ ?F (fun _ _ _ _ _ h => h)
  case F =>
    intro w mg fa h Y GN hmg
    have KX := PySem.W.km_in_of Y
    have hT := PySem.W.km_tabs_of Y
    obtain ⟨f__law_well, fd__law_well, D__law_well⟩ : ∃ f fd, G.Dn _ mg "_law_well" W_bandhems_k59_seats_gaps_and_stabs.s__law_well ["script", "turn"] f fd := by
      refine' G.dn_mk KX GN ?a ?l ?c ?k (fun _ _ _ _ _ _ us hl => match us, hl with | [_, _], _ => rfl)
      (case a => k_is); (case l => k_is); (case c => k_is); (case k => k_is)
    obtain ⟨f__law_take, fd__law_take, D__law_take⟩ : ∃ f fd, G.Dn _ mg "_law_take" W_bandhems_k59_seats_gaps_and_stabs.s__law_take ["well", "many"] f fd := by
      refine' G.dn_mk KX GN ?a ?l ?c ?k (fun _ _ _ _ _ _ us hl => match us, hl with | [_, _], _ => rfl)
      (case a => k_is); (case l => k_is); (case c => k_is); (case k => k_is)
    obtain ⟨f__law_pick, fd__law_pick, D__law_pick⟩ : ∃ f fd, G.Dn _ mg "_law_pick" W_bandhems_k59_seats_gaps_and_stabs.s__law_pick ["well", "some"] f fd := by
      refine' G.dn_mk KX GN ?a ?l ?c ?k (fun _ _ _ _ _ _ us hl => match us, hl with | [_, _], _ => rfl)
      (case a => k_is); (case l => k_is); (case c => k_is); (case k => k_is)
    obtain ⟨f__law_letters, fd__law_letters, D__law_letters⟩ : ∃ f fd, G.Dn _ mg "_law_letters" W_bandhems_k59_seats_gaps_and_stabs.s__law_letters ["well", "many"] f fd := by
      refine' G.dn_mk KX GN ?a ?l ?c ?k (fun _ _ _ _ _ _ us hl => match us, hl with | [_, _], _ => rfl)
      (case a => k_is); (case l => k_is); (case c => k_is); (case k => k_is)
    obtain ⟨f__law_word, fd__law_word, D__law_word⟩ : ∃ f fd, G.Dn _ mg "_law_word" W_bandhems_k59_seats_gaps_and_stabs.s__law_word ["well", "many"] f fd := by
      refine' G.dn_mk KX GN ?a ?l ?c ?k (fun _ _ _ _ _ _ us hl => match us, hl with | [_, _], _ => rfl)
      (case a => k_is); (case l => k_is); (case c => k_is); (case k => k_is)
    obtain ⟨f__law_own, fd__law_own, D__law_own⟩ : ∃ f fd, G.Dn _ mg "_law_own" W_bandhems_k59_seats_gaps_and_stabs.s__law_own ["word"] f fd := by
      refine' G.dn_mk KX GN ?a ?l ?c ?k (fun _ _ _ _ _ _ us hl => match us, hl with | [_], _ => rfl)
      (case a => k_is); (case l => k_is); (case c => k_is); (case k => k_is)
    obtain ⟨f_is_text_of, fd_is_text_of, D_is_text_of⟩ : ∃ f fd, G.Dn _ mg "is_text_of" W_bandhems_k59_seats_gaps_and_stabs.s_is_text_of ["value", "signs"] f fd := by
      refine' G.dn_mk KX GN ?a ?l ?c ?k (fun _ _ _ _ _ _ us hl => match us, hl with | [_, _], _ => rfl)
      (case a => k_is); (case l => k_is); (case c => k_is); (case k => k_is)
    obtain ⟨f_is_worded, fd_is_worded, D_is_worded⟩ : ∃ f fd, G.Dn _ mg "is_worded" W_bandhems_k59_seats_gaps_and_stabs.s_is_worded ["value"] f fd := by
      refine' G.dn_mk KX GN ?a ?l ?c ?k (fun _ _ _ _ _ _ us hl => match us, hl with | [_], _ => rfl)
      (case a => k_is); (case l => k_is); (case c => k_is); (case k => k_is)
    obtain ⟨f_check_word, fd_check_word, D_check_word⟩ : ∃ f fd, G.Dn _ mg "check_word" W_bandhems_k59_seats_gaps_and_stabs.s_check_word ["word"] f fd := by
      refine' G.dn_mk KX GN ?a ?l ?c ?k (fun _ _ _ _ _ _ us hl => match us, hl with | [_], _ => rfl)
      (case a => k_is); (case l => k_is); (case c => k_is); (case k => k_is)
    obtain ⟨f_by_first_ends, fd_by_first_ends, c_by_first_ends, D_by_first_ends, hcd_by_first_ends, hP_by_first_ends⟩ : ∃ f fd c, G.Dn _ mg "by_first_ends" W_bandhems_k59_seats_gaps_and_stabs.s_by_first_ends ["ends"] f fd ∧ fd.code = .ref c ∧ PySem.W.codeHdIn (L2.KOf KX) c 38 = true := by
      refine' G.dn_mkC KX GN ?a ?l ?c ?k (fun _ _ _ _ _ _ us hl => match us, hl with | [_], _ => rfl) ?hpp
      (case a => k_is); (case l => k_is); (case c => k_is); (case k => k_is); (case hpp => kernel_rfl)
    obtain ⟨f_as_told, fd_as_told, D_as_told⟩ : ∃ f fd, G.Dn _ mg "as_told" W_bandhems_k59_seats_gaps_and_stabs.s_as_told ["ends", "numbers"] f fd := by
      refine' G.dn_mk KX GN ?a ?l ?c ?k (fun _ _ _ _ _ _ us hl => match us, hl with | [_, _], _ => rfl)
      (case a => k_is); (case l => k_is); (case c => k_is); (case k => k_is)
    obtain ⟨f_letters_by, fd_letters_by, D_letters_by⟩ : ∃ f fd, G.Dn _ mg "letters_by" W_bandhems_k59_seats_gaps_and_stabs.s_letters_by ["word"] f fd := by
      refine' G.dn_mk KX GN ?a ?l ?c ?k (fun _ _ _ _ _ _ us hl => match us, hl with | [_], _ => rfl)
      (case a => k_is); (case l => k_is); (case c => k_is); (case k => k_is)
    obtain ⟨f_ends_by, fd_ends_by, D_ends_by⟩ : ∃ f fd, G.Dn _ mg "ends_by" W_bandhems_k59_seats_gaps_and_stabs.s_ends_by ["word"] f fd := by
      refine' G.dn_mk KX GN ?a ?l ?c ?k (fun _ _ _ _ _ _ us hl => match us, hl with | [_], _ => rfl)
      (case a => k_is); (case l => k_is); (case c => k_is); (case k => k_is)
    obtain ⟨f_least_free, fd_least_free, D_least_free⟩ : ∃ f fd, G.Dn _ mg "least_free" W_bandhems_k59_seats_gaps_and_stabs.s_least_free ["taken"] f fd := by
      refine' G.dn_mk KX GN ?a ?l ?c ?k (fun _ _ _ _ _ _ us hl => match us, hl with | [_], _ => rfl)
      (case a => k_is); (case l => k_is); (case c => k_is); (case k => k_is)
    obtain ⟨f_is_open, fd_is_open, D_is_open⟩ : ∃ f fd, G.Dn _ mg "is_open" W_bandhems_k59_seats_gaps_and_stabs.s_is_open ["ends", "letter", "gap"] f fd := by
      refine' G.dn_mk KX GN ?a ?l ?c ?k (fun _ _ _ _ _ _ us hl => match us, hl with | [_, _, _], _ => rfl)
      (case a => k_is); (case l => k_is); (case c => k_is); (case k => k_is)
    obtain ⟨f_seats_by, fd_seats_by, D_seats_by⟩ : ∃ f fd, G.Dn _ mg "seats_by" W_bandhems_k59_seats_gaps_and_stabs.s_seats_by ["word"] f fd := by
      refine' G.dn_mk KX GN ?a ?l ?c ?k (fun _ _ _ _ _ _ us hl => match us, hl with | [_], _ => rfl)
      (case a => k_is); (case l => k_is); (case c => k_is); (case k => k_is)
    obtain ⟨f_seats, fd_seats, D_seats⟩ : ∃ f fd, G.Dn _ mg "seats" W_bandhems_k59_seats_gaps_and_stabs.s_seats ["word"] f fd := by
      refine' G.dn_mk KX GN ?a ?l ?c ?k (fun _ _ _ _ _ _ us hl => match us, hl with | [_], _ => rfl)
      (case a => k_is); (case l => k_is); (case c => k_is); (case k => k_is)
    obtain ⟨f__law_seats, fd__law_seats, D__law_seats⟩ : ∃ f fd, G.Dn _ mg "_law_seats" W_bandhems_k59_seats_gaps_and_stabs.s__law_seats ["word"] f fd := by
      refine' G.dn_mk KX GN ?a ?l ?c ?k (fun _ _ _ _ _ _ us hl => match us, hl with | [_], _ => rfl)
      (case a => k_is); (case l => k_is); (case c => k_is); (case k => k_is)
    obtain ⟨f__law_spans, fd__law_spans, D__law_spans⟩ : ∃ f fd, G.Dn _ mg "_law_spans" W_bandhems_k59_seats_gaps_and_stabs.s__law_spans ["word"] f fd := by
      refine' G.dn_mk KX GN ?a ?l ?c ?k (fun _ _ _ _ _ _ us hl => match us, hl with | [_], _ => rfl)
      (case a => k_is); (case l => k_is); (case c => k_is); (case k => k_is)
    obtain ⟨f__law_open, fd__law_open, D__law_open⟩ : ∃ f fd, G.Dn _ mg "_law_open" W_bandhems_k59_seats_gaps_and_stabs.s__law_open ["word", "gap"] f fd := by
      refine' G.dn_mk KX GN ?a ?l ?c ?k (fun _ _ _ _ _ _ us hl => match us, hl with | [_, _], _ => rfl)
      (case a => k_is); (case l => k_is); (case c => k_is); (case k => k_is)
    obtain ⟨f__law_gap, fd__law_gap, D__law_gap⟩ : ∃ f fd, G.Dn _ mg "_law_gap" W_bandhems_k59_seats_gaps_and_stabs.s__law_gap ["word"] f fd := by
      refine' G.dn_mk KX GN ?a ?l ?c ?k (fun _ _ _ _ _ _ us hl => match us, hl with | [_], _ => rfl)
      (case a => k_is); (case l => k_is); (case c => k_is); (case k => k_is)
    obtain ⟨f__law_same, fd__law_same, D__law_same⟩ : ∃ f fd, G.Dn _ mg "_law_same" W_bandhems_k59_seats_gaps_and_stabs.s__law_same ["told", "due"] f fd := by
      refine' G.dn_mk KX GN ?a ?l ?c ?k (fun _ _ _ _ _ _ us hl => match us, hl with | [_, _], _ => rfl)
      (case a => k_is); (case l => k_is); (case c => k_is); (case k => k_is)
    obtain ⟨f_open_at, fd_open_at, D_open_at⟩ : ∃ f fd, G.Dn _ mg "open_at" W_bandhems_k59_seats_gaps_and_stabs.s_open_at ["word", "gap"] f fd := by
      refine' G.dn_mk KX GN ?a ?l ?c ?k (fun _ _ _ _ _ _ us hl => match us, hl with | [_, _], _ => rfl)
      (case a => k_is); (case l => k_is); (case c => k_is); (case k => k_is)
    obtain ⟨f_fullest_gap_by, fd_fullest_gap_by, D_fullest_gap_by⟩ : ∃ f fd, G.Dn _ mg "fullest_gap_by" W_bandhems_k59_seats_gaps_and_stabs.s_fullest_gap_by ["word"] f fd := by
      refine' G.dn_mk KX GN ?a ?l ?c ?k (fun _ _ _ _ _ _ us hl => match us, hl with | [_], _ => rfl)
      (case a => k_is); (case l => k_is); (case c => k_is); (case k => k_is)
    obtain ⟨f_fullest_gap, fd_fullest_gap, D_fullest_gap⟩ : ∃ f fd, G.Dn _ mg "fullest_gap" W_bandhems_k59_seats_gaps_and_stabs.s_fullest_gap ["word"] f fd := by
      refine' G.dn_mk KX GN ?a ?l ?c ?k (fun _ _ _ _ _ _ us hl => match us, hl with | [_], _ => rfl)
      (case a => k_is); (case l => k_is); (case c => k_is); (case k => k_is)
    obtain ⟨f__law_asked, fd__law_asked, D__law_asked⟩ : ∃ f fd, G.Dn _ mg "_law_asked" W_bandhems_k59_seats_gaps_and_stabs.s__law_asked ["word"] f fd := by
      refine' G.dn_mk KX GN ?a ?l ?c ?k (fun _ _ _ _ _ _ us hl => match us, hl with | [_], _ => rfl)
      (case a => k_is); (case l => k_is); (case c => k_is); (case k => k_is)
    obtain ⟨f__law_turn, fd__law_turn, D__law_turn⟩ : ∃ f fd, G.Dn _ mg "_law_turn" W_bandhems_k59_seats_gaps_and_stabs.s__law_turn ["well"] f fd := by
      refine' G.dn_mk KX GN ?a ?l ?c ?k (fun _ _ _ _ _ _ us hl => match us, hl with | [_], _ => rfl)
      (case a => k_is); (case l => k_is); (case c => k_is); (case k => k_is)
    obtain ⟨f_stabbed_letters, fd_stabbed_letters, c_stabbed_letters, D_stabbed_letters, hcd_stabbed_letters, hP_stabbed_letters⟩ : ∃ f fd c, G.Dn _ mg "stabbed_letters" W_bandhems_k59_seats_gaps_and_stabs.s_stabbed_letters ["word"] f fd ∧ fd.code = .ref c ∧ PySem.W.codeHdIn (L2.KOf KX) c 79 = true := by
      refine' G.dn_mkC KX GN ?a ?l ?c ?k (fun _ _ _ _ _ _ us hl => match us, hl with | [_], _ => rfl) ?hpp
      (case a => k_is); (case l => k_is); (case c => k_is); (case k => k_is); (case hpp => kernel_rfl)
    obtain ⟨f_stabs_by, fd_stabs_by, D_stabs_by⟩ : ∃ f fd, G.Dn _ mg "stabs_by" W_bandhems_k59_seats_gaps_and_stabs.s_stabs_by ["word"] f fd := by
      refine' G.dn_mk KX GN ?a ?l ?c ?k (fun _ _ _ _ _ _ us hl => match us, hl with | [_], _ => rfl)
      (case a => k_is); (case l => k_is); (case c => k_is); (case k => k_is)
    obtain ⟨f_stabs, fd_stabs, D_stabs⟩ : ∃ f fd, G.Dn _ mg "stabs" W_bandhems_k59_seats_gaps_and_stabs.s_stabs ["word"] f fd := by
      refine' G.dn_mk KX GN ?a ?l ?c ?k (fun _ _ _ _ _ _ us hl => match us, hl with | [_], _ => rfl)
      (case a => k_is); (case l => k_is); (case c => k_is); (case k => k_is)
    obtain ⟨f__law_stabbed, fd__law_stabbed, D__law_stabbed⟩ : ∃ f fd, G.Dn _ mg "_law_stabbed" W_bandhems_k59_seats_gaps_and_stabs.s__law_stabbed ["word"] f fd := by
      refine' G.dn_mk KX GN ?a ?l ?c ?k (fun _ _ _ _ _ _ us hl => match us, hl with | [_], _ => rfl)
      (case a => k_is); (case l => k_is); (case c => k_is); (case k => k_is)
    obtain ⟨f_side_by_side_by, fd_side_by_side_by, D_side_by_side_by⟩ : ∃ f fd, G.Dn _ mg "side_by_side_by" W_bandhems_k59_seats_gaps_and_stabs.s_side_by_side_by ["word"] f fd := by
      refine' G.dn_mk KX GN ?a ?l ?c ?k (fun _ _ _ _ _ _ us hl => match us, hl with | [_], _ => rfl)
      (case a => k_is); (case l => k_is); (case c => k_is); (case k => k_is)
    obtain ⟨f_side_by_side, fd_side_by_side, D_side_by_side⟩ : ∃ f fd, G.Dn _ mg "side_by_side" W_bandhems_k59_seats_gaps_and_stabs.s_side_by_side ["word"] f fd := by
      refine' G.dn_mk KX GN ?a ?l ?c ?k (fun _ _ _ _ _ _ us hl => match us, hl with | [_], _ => rfl)
      (case a => k_is); (case l => k_is); (case c => k_is); (case k => k_is)
    obtain ⟨f__law_are_beside, fd__law_are_beside, D__law_are_beside⟩ : ∃ f fd, G.Dn _ mg "_law_are_beside" W_bandhems_k59_seats_gaps_and_stabs.s__law_are_beside ["spans", "one", "other"] f fd := by
      refine' G.dn_mk KX GN ?a ?l ?c ?k (fun _ _ _ _ _ _ us hl => match us, hl with | [_, _, _], _ => rfl)
      (case a => k_is); (case l => k_is); (case c => k_is); (case k => k_is)
    obtain ⟨f__law_stabs_asked, fd__law_stabs_asked, D__law_stabs_asked⟩ : ∃ f fd, G.Dn _ mg "_law_stabs_asked" W_bandhems_k59_seats_gaps_and_stabs.s__law_stabs_asked ["word"] f fd := by
      refine' G.dn_mk KX GN ?a ?l ?c ?k (fun _ _ _ _ _ _ us hl => match us, hl with | [_], _ => rfl)
      (case a => k_is); (case l => k_is); (case c => k_is); (case k => k_is)
    obtain ⟨f__law_stabs, fd__law_stabs, D__law_stabs⟩ : ∃ f fd, G.Dn _ mg "_law_stabs" W_bandhems_k59_seats_gaps_and_stabs.s__law_stabs ["well"] f fd := by
      refine' G.dn_mk KX GN ?a ?l ?c ?k (fun _ _ _ _ _ _ us hl => match us, hl with | [_], _ => rfl)
      (case a => k_is); (case l => k_is); (case c => k_is); (case k => k_is)
    obtain ⟨f_law, fd_law, D_law⟩ : ∃ f fd, G.Dn _ mg "law" W_bandhems_k59_seats_gaps_and_stabs.s_law ["script"] f fd := by
      refine' G.dn_mk KX GN ?a ?l ?c ?k (fun _ _ _ _ _ _ us hl => match us, hl with | [_], _ => rfl)
      (case a => k_is); (case l => k_is); (case c => k_is); (case k => k_is)
    have z_abs : mg "abs" = none := by
      refine PySem.W.mg_none_of KX GN ?zb
      (case zb => k_is)
    have z_all : mg "all" = none := by
      refine PySem.W.mg_none_of KX GN ?zb
      (case zb => k_is)
    have z_bool : mg "bool" = none := by
      refine PySem.W.mg_none_of KX GN ?zb
      (case zb => k_is)
    have z_divmod : mg "divmod" = none := by
      refine PySem.W.mg_none_of KX GN ?zb
      (case zb => k_is)
    have z_int : mg "int" = none := by
      refine PySem.W.mg_none_of KX GN ?zb
      (case zb => k_is)
    have z_isinstance : mg "isinstance" = none := by
      refine PySem.W.mg_none_of KX GN ?zb
      (case zb => k_is)
    have z_len : mg "len" = none := by
      refine PySem.W.mg_none_of KX GN ?zb
      (case zb => k_is)
    have z_list : mg "list" = none := by
      refine PySem.W.mg_none_of KX GN ?zb
      (case zb => k_is)
    have z_max : mg "max" = none := by
      refine PySem.W.mg_none_of KX GN ?zb
      (case zb => k_is)
    have z_min : mg "min" = none := by
      refine PySem.W.mg_none_of KX GN ?zb
      (case zb => k_is)
    have z_range : mg "range" = none := by
      refine PySem.W.mg_none_of KX GN ?zb
      (case zb => k_is)
    have z_set : mg "set" = none := by
      refine PySem.W.mg_none_of KX GN ?zb
      (case zb => k_is)
    have z_sorted : mg "sorted" = none := by
      refine PySem.W.mg_none_of KX GN ?zb
      (case zb => k_is)
    have z_str : mg "str" = none := by
      refine PySem.W.mg_none_of KX GN ?zb
      (case zb => k_is)
    have z_sum : mg "sum" = none := by
      refine PySem.W.mg_none_of KX GN ?zb
      (case zb => k_is)
    have z_tuple : mg "tuple" = none := by
      refine PySem.W.mg_none_of KX GN ?zb
      (case zb => k_is)
    have k_LETTERS : G.KC (L2.KOf KX) ⟨fun _ => 0, [(38, ("by_first_ends.<locals>.<lambda>" : PySem.Str)), (79, ("stabbed_letters.<locals>.<lambda>" : PySem.Str))]⟩ mg "LETTERS" W_bandhems_k59_seats_gaps_and_stabs.c_LETTERS := by
      refine' ⟨_, .str (G.S [97, 98, 99, 100, 101, 102, 103, 104, 105, 106, 107, 108]), PySem.W.mg_of KX GN ?a, ?r, fun _ _ => .str _⟩
      (case a => k_is); (case r => exact ⟨_, rfl⟩)
    have e := D_law.m.symm.trans hmg
    cases e
    refine ⟨L2.KOf KX, KX, ?_⟩
    refine G.law_atS (cm := ⟨fun _ => 0, [(38, ("by_first_ends.<locals>.<lambda>" : PySem.Str)), (79, ("stabbed_letters.<locals>.<lambda>" : PySem.Str))]⟩) (m := W_bandhems_k59_seats_gaps_and_stabs.m_law) [(c_by_first_ends, 38), (c_stabbed_letters, 79)] hT KX ?ts ?tk ?tc ?tm (fun s v => .of_eq (D_law.bb [v] rfl)) (fun ns hl => W_bandhems_k59_seats_gaps_and_stabs.law_true ns hl) ?tF
    case ts =>
      intro p hp
      rcases List.mem_cons.mp hp with hp | hp; (· subst hp; simp); rcases List.mem_cons.mp hp with hp | hp; (· subst hp; simp); cases hp
    case tk =>
      intro p hp
      rcases List.mem_cons.mp hp with hp | hp; (· subst hp; kernel_rfl); rcases List.mem_cons.mp hp with hp | hp; (· subst hp; kernel_rfl); cases hp
    case tc =>
      intro p hp
      rcases List.mem_cons.mp hp with hp | hp; (· subst hp; exact hP_by_first_ends); rcases List.mem_cons.mp hp with hp | hp; (· subst hp; exact hP_stabbed_letters); cases hp
    case tm =>
      intro q hq
      rcases List.mem_cons.mp hq with hq | hq; (· subst hq; simp); rcases List.mem_cons.mp hq with hq | hq; (· subst hq; simp); cases hq
    case tF =>
      intro base hTB
      exact W_bandhems_k59_seats_gaps_and_stabs.w_all D__law_well D__law_take D__law_pick D__law_letters D__law_word D__law_own D_is_text_of D_is_worded D_check_word D_by_first_ends D_as_told D_letters_by D_ends_by D_least_free D_is_open D_seats_by D_seats D__law_seats D__law_spans D__law_open D__law_gap D__law_same D_open_at D_fullest_gap_by D_fullest_gap D__law_asked D__law_turn D_stabbed_letters D_stabs_by D_stabs D__law_stabbed D_side_by_side_by D_side_by_side D__law_are_beside D__law_stabs_asked D__law_stabs D_law z_abs z_all z_bool z_divmod z_int z_isinstance z_len z_list z_max z_min z_range z_set z_sorted z_str z_sum z_tuple k_LETTERS (hTB (c_by_first_ends, 38) (by simp)) hcd_by_first_ends (by simp) (by simp) (hTB (c_stabbed_letters, 79) (by simp)) hcd_stabbed_letters (by simp) (by simp)

