import PyProof.Rows.All
import Wide.All
import OpenK.AllK
import Wide.FinOn
import HandS.Base
import HandS.Call
import HandS.List
import HandS.Comp
import HandS.Dict
import HandS.Iter
import HandS.Text
import HandS.Exc
import HandS.Lambda
import HandS.Words
import HandS.Ends
import HandS.WordsExc
import HandS.ClsMeth
import HandS.Deep
import HandS.Wide
import HandS.IsInst
import PyProof.P3In
import HandS.TupAny
import HandS.Star
import HandS.Property
import HandS.Style
import HandS.RaiseMore
import HandS.WordsDict
import HandS.More
import KE.SortData
import HandS.DictComp
import HandS.NoneIn
import HandS.Zip0
import PyProof.Draws
import HandS.Defaults
import HandS.EndBits
import HandS.EndTab
import HandS.TupMul
import HandS.ListItems
import HandS.Conv
import PyProof.ReprRoads
import HandS.Zip
import HandS.Nested
import HandS.ExcOwn
import HandS.TryOnly
import HandS.ExcIs
import KE.KCallOwn
import HandS.FStr
import HandS.OwnEq
import KE.KItemsList
import PyProof.Rows.Range3
import KE.KDictList
import HandS.SetFor
import KE.SortKeyHeap
import PyProof.Rows.MatchSeqLen
import PyProof.Rows.TupAdd
import PyProof.InstNe
import PyProof.Rows.CallKw2
import OpenK.KMore
import HandS.ExcInit
import HandS.ExcField
import HandS.TryMany
import KE.KExcSuper
import KE.KExcIs
import KE.KDictZip
import HandS.DictTup
import HandS.TupSets
import KE.KUnpack
import PyProof.CollectIter
import HandS.ReplaceLit
import PyProof.DictMoreH
import PyProof.Rows.TupDisplay
import HandS.Walk
import HandS.Sort
import KE.KWithOwn
import HandS.Finally
import HandS.ExcValue
import HandS.ForMost
import PySem.Challenge.RW_firstbore_k01_errors_and_what_they_keep
section
set_option Elab.async false
set_option linter.all false
set_option maxRecDepth 100000
set_option maxHeartbeats 4000000
/-! Data, and what of it a value stands for. -/
namespace Fb
open PySem PySem.Spec PyProof.Rows L2
abbrev St := L2.St

/-- a function made of a lambda: its address, its code object's and its name, what its captured names hold -/
structure Clo where
  f : Addr
  c : Addr
  q : Str
  ws : List V
/-- what is known loosely: a box of draws; a tuple without an own dict, of pairs of a text and an int -/
inductive Bx where
  | nat (n : Nat)
  | wld (ws : List (Str × Int))
  | exc (x : Addr) (dd : Option Addr) (fs : List (Str × Key))
instance (n : Nat) : OfNat Bx n := ⟨Bx.nat n⟩
instance : Inhabited Bx := ⟨Bx.nat 0⟩
/-- data without addresses -/
inductive D where
  | non | bl (b : Bool) | int (i : Int) | str (x : Str)
  | tup (xs : List D) | lst (xs : List D) | dic (kvs : List (Key × D))
  | ins (c : Str) (fs : List (Str × D))
  | obj (x : Addr) (c : Str) (fs : List (Str × D))
  | stk (ds : List D) (p : D) (x : Addr) (rows : List D)
  | box (n : Bx)
  | exn (x : Addr) (dd : Option Addr) (fs : List (Str × D))
  | erv (x : Addr) (c : Str) (dd : Option Addr) (fs : List (Str × D))
  | cel (x : Addr) (ds : List D)
  | ty (n : String)
  | cls (c : Str)
  | raw (a : Addr)
  | scr (ns : List Int)
  | clo (k : Clo) (cs : List D)
  deriving Inhabited

/-- the world of a row: its written part, its module's names -/
structure Wd where
  K : PySem.W.Frag
  mg : Str → Option Value
  tabs : List (Addr × Str)
/-- the classes whose instances may change -/
def Wd.mut (G : Wd) (C : Addr) : Prop := G.mg "Live" = some (.ref C) ∨ G.mg "Desk" = some (.ref C)
/-- the tables of code objects, each with the name of what stands in it -/
abbrev TabsG (G : Wd) (H : Hp) : Prop := LamX.Tabs G.tabs H
/-- the heap has grown; a table may have one more code object -/
structure Same (G : Wd) (H H' : Hp) : Prop where
  ext : ∀ a o, H a = some o → (∀ ps, o ≠ .tbl ps) → H' a = some o
  fre : ∀ a, H' a = none → H a = none
  tab : TabsG G H → TabsG G H'
theorem Same.of {G : Wd} {H H' : Hp} (s : L2.Same H H') : Same G H H' := ⟨fun a o e _ => s a o e, fun a e => s.free e, fun t => t.ext s⟩
theorem Same.refl {G : Wd} (H : Hp) : Same G H H := .of (L2.Same.refl H)
theorem Same.trans {G : Wd} {H H1 H2 : Hp} (a : Same G H H1) (b : Same G H1 H2) : Same G H H2 := ⟨fun c o e n => b.ext c o (a.ext c o e n) n, fun c e => a.fre c (b.fre c e), fun t => b.tab (a.tab t)⟩
theorem Same.free {G : Wd} {H H' : Hp} (s : Same G H H') {a : Addr} (e : H' a = none) : H a = none := s.fre a e
structure Same1 (G : Wd) (H H' : Hp) : Prop extends Same G H H' where
  tb : TabsG G H'
theorem Same1.trans {G : Wd} {H H1 H2 : Hp} (a : Same1 G H H1) (b : Same G H1 H2) : Same1 G H H2 := ⟨a.toSame.trans b, b.tab a.tb⟩
theorem Same.trans1 {G : Wd} {H H1 H2 : Hp} (a : Same G H H1) (b : Same1 G H1 H2) : Same1 G H H2 := ⟨a.trans b.toSame, b.tb⟩
instance {G : Wd} {H H' : Hp} : CoeOut (Same1 G H H') (Same G H H') := ⟨Same1.toSame⟩
theorem Same.at {G : Wd} {H H' : Hp} (s : Same G H H') {a : Addr} {o : HO} (e : H a = some o) (n : ∀ ps, o ≠ .tbl ps := by exact fun _ z => nomatch z) : H' a = some o := s.ext a o e n

/-- a tuple: tracked, or of the written part -/
def TupAt (K : PySem.W.Frag) (H : Hp) (a : Addr) (xs : List V) : Prop :=
  H a = some (.tup xs) ∨ (∃ o, H a = some (.frz o (.tup xs))) ∨ ∃ (o : Obj) (its : Array Value) (n : Nat), K.lookup a = some o ∧ o.cls = .type "tuple" ∧ o.data = .seq its n ∧ its.size ≤ sizeLine ∧ Vals xs its.toList
/-- the box of draws, a list [cells, number]: what stands at a; at b, its cells -/
def boxA (a b : Addr) : Heap → Prop := fun h => ∃ (m : Int) (its : List Value) (n : Nat), Vals [.ref b, .int m] its ∧ h.get? a = some { cls := .type "list", data := .seq its.toArray n }
def boxB (b : Addr) : Heap → Prop := fun h => ∃ (ns : List Int) (its : List Value) (n : Nat), ns.length ≤ 100 ∧ Vals (ns.map V.int) its ∧ h.get? b = some { cls := .type "list", data := .seq its.toArray n }
/-- a list [number, number] -/
def boxC (a : Addr) : Heap → Prop := fun h => ∃ (i m : Int) (its : List Value) (n : Nat), Vals [.int i, .int m] its ∧ h.get? a = some { cls := .type "list", data := .seq its.toArray n }
/-- a tuple of the tuples at ts; a pair of a text and an int -/
def wldO (ts : List Addr) (n : Nat) : HO := .frz { cls := .type "tuple", data := .seq (ts.map Value.ref).toArray n } (.tup (ts.map V.ref))
def pairO (x : Str) (d : Int) (k1 k2 : Tok) (n : Nat) : HO := .frz { cls := .type "tuple", data := .seq #[.str x k1, .int d k2] n } (.tup [.str x, .int d])
/-- what is known of a thing that stays as it is -/
def FzT (o : HO) : Prop := (∃ φ, o = .ext φ) ∨ (∃ ob xs, o = .frz ob (.tup xs)) ∨ ∃ gs, o = .xd gs
def PairsAt (H : Hp) : List Addr → List (Str × Int) → Prop
  | [], [] => True
  | t :: ts, w :: ws => (∃ k1 k2 n, H t = some (pairO w.1 w.2 k1 k2 n)) ∧ PairsAt H ts ws
  | _, _ => False
theorem PairsAt.imp {H H' : Hp} (k : ∀ b o, H b = some o → FzT o → H' b = some o) : ∀ {ts : List Addr} {ws : List (Str × Int)}, PairsAt H ts ws → PairsAt H' ts ws
  | [], [], _ => trivial
  | _ :: _, _ :: _, h => ⟨h.1.elim fun k1 e => ⟨k1, e.elim fun k2 e => ⟨k2, e.elim fun n e => ⟨n, k _ _ e (.inr (.inl ⟨_, _, rfl⟩))⟩⟩⟩, PairsAt.imp k h.2⟩
  | [], _ :: _, h => h.elim
  | _ :: _, [], h => h.elim
def BoxAt (H : Hp) (n : Bx) (a : Addr) : Prop := match n with
  | .nat n => if n = 0 then ∃ b, a ≠ b ∧ H a = some (.ext (boxA a b)) ∧ H b = some (.ext (boxB b)) else H a = some (.ext (boxC a))
  | .wld ws => ∃ ts, (∃ n, H a = some (wldO ts n)) ∧ PairsAt H ts ws
  | .exc x dd fs => a = x ∧ ∀ d, dd = some d → H d = some (.xd (fs.map fun f => (f.1, kV f.2)))
/-- what is loosely known stays known -/
theorem BoxAt.imp {H H' : Hp} {n : Bx} {a : Addr} (h : BoxAt H n a) (k : ∀ b o, H b = some o → FzT o → H' b = some o) : BoxAt H' n a := by
  cases n with
  | exc x dd fs => exact ⟨h.1, fun d e => k _ _ (h.2 d e) (.inr (.inr ⟨_, rfl⟩))⟩
  | wld ws =>
    obtain ⟨ts, ⟨n, h1⟩, h2⟩ := h
    exact ⟨ts, ⟨n, k _ _ h1 (.inr (.inl ⟨_, _, rfl⟩))⟩, h2.imp k⟩
  | nat n =>
    unfold BoxAt at h ⊢
    dsimp only at h ⊢
    by_cases e : n = 0
    · rw [if_pos e] at h ⊢
      obtain ⟨b, ne, h1, h2⟩ := h
      exact ⟨b, ne, k _ _ h1 (.inl ⟨_, rfl⟩), k _ _ h2 (.inl ⟨_, rfl⟩)⟩
    · rw [if_neg e] at h ⊢
      exact k _ _ h (.inl ⟨_, rfl⟩)
/-- an error held as a value: what stands at a -/
def excAt (cls : Value) (dd : Option Addr) (a : Addr) : Heap → Prop := fun h => ∃ (oe : Obj) (vs : Array Value), h.get? a = some oe ∧ (oe.cls = cls ∧ oe.dict = dd) ∧ oe.data = .fields vs
/-- the script: a list of the caller's, or of the written part -/
def ScrAt (K : PySem.W.Frag) (H : Hp) (a : Addr) (ns : List Int) : Prop := (∃ o, H a = some (.frz o (.lst (ns.map V.int)))) ∨
  ∃ (o : Obj) (its : Array Value) (n : Nat), K.lookup a = some o ∧ o.cls = .type "list" ∧ o.dict = none ∧ o.data = .seq its n ∧ its.size ≤ sizeLine ∧ Vals (ns.map V.int) its.toList
theorem ScrAt.sq {K : PySem.W.Frag} {H : Hp} {a : Addr} {ns : List Int} (h : ScrAt K H a ns) : SqL K H a (ns.map V.int) := h.elim (fun ⟨o, e⟩ => .inl (.inr ⟨o, e⟩)) .inr
theorem TupAt.sq {K : PySem.W.Frag} {H : Hp} {a : Addr} {xs : List V} (h : TupAt K H a xs) : SqT K H a xs := h.elim (fun z => .inl (.inl z)) fun z => z.elim (fun z => .inl (.inr z)) .inr
section
variable (G : Wd) (N : Addr → Prop) (H : Hp)
mutual
/-- v stands for the data in the heap H; N: the addresses that its lists and dicts may have -/
def Rep : D → V → Prop
  | .non, v => v = .non
  | .bl b, v => v = .bl b
  | .int i, v => v = .int i
  | .str x, v => v = .str x
  | .tup ds, v => ∃ a vs, v = .ref a ∧ TupAt G.K H a vs ∧ Reps ds vs
  | .lst ds, v => ∃ a vs, v = .ref a ∧ N a ∧ H a = some (.lst vs) ∧ Reps ds vs
  | .dic kvs, v => ∃ a ks, v = .ref a ∧ N a ∧ Rd H a (.dK ks) ∧ RepK kvs ks
  | .ins c fs, v => ∃ a C dx gs, v = .ref a ∧ G.mg c = some (.ref C) ∧ H a = some (.ins C dx gs) ∧ RepF fs gs ∧ ¬ G.mut C
  | .obj x c fs, v => v = .ref x ∧ N x ∧ ∃ C dx gs, G.mg c = some (.ref C) ∧ H x = some (.ins C dx gs) ∧ RepF fs gs ∧ G.mut C
  | .stk _ _ _ _, v => ∃ a, v = .ref a
  | .box n, v => ∃ a, v = .ref a ∧ BoxAt H n a
  | .exn x dd fs, v => v = .ref x ∧ (∀ d, dd = some d → ∃ gs, H d = some (.xd gs) ∧ RepF fs gs)
  | .erv x c dd fs, v => v = .ref x ∧ (∃ C, G.mg c = some (.ref C) ∧ H x = some (.ext (excAt (.ref C) dd x))) ∧ (∀ d, dd = some d → ∃ gs, H d = some (.xd gs) ∧ RepF fs gs)
  | .cel x ds, v => v = .ref x ∧ N x ∧ ∃ vs, H x = some (.lst vs) ∧ Reps ds vs
  | .ty n, v => v = .ty n
  | .cls c, v => ∃ C, v = .ref C ∧ G.mg c = some (.ref C)
  | .raw x, v => v = .ref x
  | .scr ns, v => ∃ a, v = .ref a ∧ ScrAt G.K H a ns
  | .clo k cs, v => v = .ref k.f ∧ H k.c = some (LamX.CodeO k.c k.q) ∧ Reps cs k.ws
def Reps : List D → List V → Prop
  | [], vs => vs = []
  | d :: ds, vs => ∃ w ws, vs = w :: ws ∧ Rep d w ∧ Reps ds ws
def RepK : List (Key × D) → List (Key × V) → Prop
  | [], vs => vs = []
  | (k, d) :: ds, vs => ∃ w ws, vs = (k, w) :: ws ∧ Rep d w ∧ RepK ds ws
def RepF : List (Str × D) → List (Str × V) → Prop
  | [], vs => vs = []
  | (k, d) :: ds, vs => ∃ w ws, vs = (k, w) :: ws ∧ Rep d w ∧ RepF ds ws
end
end

/-- the heap has grown; a dict may be locked or unlocked -/
def Le (H H' : Hp) : Prop := ∀ a o, H a = some o → (∀ ps, o ≠ .tbl ps) → H' a = some o ∨ (∃ ks, o = .dK ks ∧ ∃ ob, H' a = some (.frz ob (.dK ks))) ∨ ∃ ob ks, o = .frz ob (.dK ks) ∧ H' a = some (.dK ks)
theorem Le.of {G : Wd} {H H' : Hp} (h : Same G H H') : Le H H' := fun a o e n => .inl (h.ext a o e n)
theorem Le.refl (H : Hp) : Le H H := fun a o e _ => .inl e
theorem Le.rd {H H' : Hp} (h : Le H H') {a : Addr} {u : HO} (hu : ∀ o w, u ≠ .frz o w) (ht : ∀ ps, u ≠ .tbl ps) (r : Rd H a u) : Rd H' a u := by
  rcases r with e | ⟨o, e⟩
  · rcases h a u e ht with q | ⟨ks, rfl, ob, q⟩ | ⟨ob, ks, rfl, q⟩
    · exact .inl q
    · exact .inr ⟨ob, q⟩
    · exact absurd rfl (hu _ _)
  · rcases h a _ e (fun _ z => nomatch z) with q | ⟨ks, z, ob, q⟩ | ⟨ob, ks, z, q⟩
    · exact .inr ⟨_, q⟩
    · cases z
    · cases z; exact .inl q
theorem Le.frzT {H H' : Hp} (h : Le H H') {a : Addr} {ob : Obj} {xs : List V} (r : H a = some (.frz ob (.tup xs))) : H' a = some (.frz ob (.tup xs)) := by
  rcases h a _ r (fun _ z => nomatch z) with q | ⟨ks, z, _⟩ | ⟨ob, ks, z, _⟩
  · exact q
  · cases z
  · cases z
theorem Le.xd {H H' : Hp} (h : Le H H') {a : Addr} {gs : List (Str × V)} (r : H a = some (.xd gs)) : H' a = some (.xd gs) := by
  rcases h a _ r (fun _ z => nomatch z) with q | ⟨ks, z, _⟩ | ⟨ob, ks, z, _⟩
  · exact q
  · cases z
  · cases z
theorem Le.tupT {K : PySem.W.Frag} {H H' : Hp} (h : Le H H') {a : Addr} {xs : List V} (r : TupAt K H a xs) : TupAt K H' a xs := by
  rcases r with r | ⟨o, r⟩ | r
  · rcases h a _ r (fun _ z => nomatch z) with q | ⟨ks, z, _⟩ | ⟨ob, ks, z, _⟩
    · exact .inl q
    · cases z
    · cases z
  · exact .inr (.inl ⟨o, h.frzT r⟩)
  · exact .inr (.inr r)
theorem Le.ins {H H' : Hp} (h : Le H H') {a C dx : Addr} {fs : List (Str × V)} (r : H a = some (.ins C dx fs)) : H' a = some (.ins C dx fs) := by
  rcases h a _ r (fun _ z => nomatch z) with q | ⟨ks, z, _⟩ | ⟨ob, ks, z, _⟩
  · exact q
  · cases z
  · cases z
theorem Le.lst {H H' : Hp} (h : Le H H') {a : Addr} {xs : List V} (r : H a = some (.lst xs)) : H' a = some (.lst xs) := by
  rcases h a _ r (fun _ z => nomatch z) with q | ⟨ks, z, _⟩ | ⟨ob, ks, z, _⟩
  · exact q
  · cases z
  · cases z
theorem Le.tup {H H' : Hp} (h : Le H H') {a : Addr} {xs : List V} (r : H a = some (.tup xs)) : H' a = some (.tup xs) := by
  rcases h a _ r (fun _ z => nomatch z) with q | ⟨ks, z, _⟩ | ⟨ob, ks, z, _⟩
  · exact q
  · cases z
  · cases z
theorem Le.scr {K : PySem.W.Frag} {H H' : Hp} (h : Le H H') {a : Addr} {ns : List Int} (r : ScrAt K H a ns) : ScrAt K H' a ns := by
  rcases r with ⟨o, r⟩ | r
  · rcases h a _ r (fun _ z => nomatch z) with q | ⟨ks, z, _⟩ | ⟨ob, ks, z, _⟩
    · exact .inl ⟨o, q⟩
    · cases z
    · cases z
  · exact .inr r
theorem Le.ext {H H' : Hp} (h : Le H H') {a : Addr} {φ : Heap → Prop} (r : H a = some (.ext φ)) : H' a = some (.ext φ) := by
  rcases h a _ r (fun _ z => nomatch z) with q | ⟨ks, z, _⟩ | ⟨ob, ks, z, _⟩
  · exact q
  · cases z
  · cases z
theorem Rd.some {H : Hp} {a : Addr} {u : HO} (r : Rd H a u) : H a ≠ none := by
  rcases r with e | ⟨o, e⟩ <;> (rw [e]; exact fun z => nomatch z)

section
variable {G : Wd} {N N' : Addr → Prop} {H H' : Hp}
mutual
theorem Rep.mono (hN : ∀ a, N a → H a ≠ none → N' a) (hL : Le H H') : ∀ {d : D} {v : V}, Rep G N H d v → Rep G N' H' d v
  | .non, _, h => h
  | .bl _, _, h => h
  | .int _, _, h => h
  | .str _, _, h => h
  | .tup ds, _, ⟨a, vs, e, q, r⟩ => ⟨a, vs, e, hL.tupT q, Reps.mono hN hL r⟩
  | .lst ds, _, ⟨a, vs, e, n, q, r⟩ => ⟨a, vs, e, hN a n (Rd.some (.inl q)), hL.lst q, Reps.mono hN hL r⟩
  | .dic kvs, _, ⟨a, ks, e, n, q, r⟩ => ⟨a, ks, e, hN a n (Rd.some q), hL.rd (fun _ _ z => by cases z) (fun _ z => by cases z) q, RepK.mono hN hL r⟩
  | .ins c fs, _, ⟨a, C, dx, gs, e, m, q, r, t⟩ => ⟨a, C, dx, gs, e, m, hL.ins q, RepF.mono hN hL r, t⟩
  | .obj x c fs, _, ⟨e, n, C, dx, gs, m, q, r, t⟩ => ⟨e, hN x n (Rd.some (.inl q)), C, dx, gs, m, hL.ins q, RepF.mono hN hL r, t⟩
  | .stk _ _ _ _, _, h => h
  | .box n, _, ⟨a, e, q⟩ => ⟨a, e, q.imp fun _ _ z f => f.elim (fun ⟨φ, e⟩ => by subst e; exact hL.ext z) fun f => f.elim (fun ⟨ob, xs, e⟩ => by subst e; exact hL.frzT z) fun ⟨gs, e⟩ => by subst e; exact hL.xd z⟩
  | .exn x dd fs, _, ⟨e, q⟩ => ⟨e, fun d ed => (q d ed).elim fun gs z => ⟨gs, hL.xd z.1, RepF.mono hN hL z.2⟩⟩
  | .erv x c dd fs, _, ⟨e, ⟨C, m, q1⟩, q⟩ => ⟨e, ⟨C, m, hL.ext q1⟩, fun d ed => (q d ed).elim fun gs z => ⟨gs, hL.xd z.1, RepF.mono hN hL z.2⟩⟩
  | .cel x ds, _, ⟨e, n, vs, q, r⟩ => ⟨e, hN x n (Rd.some (.inl q)), vs, hL.lst q, Reps.mono hN hL r⟩
  | .ty _, _, h => h
  | .cls _, _, h => h
  | .raw _, _, h => h
  | .scr _, _, ⟨a, e, q⟩ => ⟨a, e, hL.scr q⟩
  | .clo _ _, _, ⟨e, q, r⟩ => ⟨e, hL.ext q, Reps.mono hN hL r⟩
theorem Reps.mono (hN : ∀ a, N a → H a ≠ none → N' a) (hL : Le H H') : ∀ {ds : List D} {vs : List V}, Reps G N H ds vs → Reps G N' H' ds vs
  | [], _, h => h
  | _ :: _, _, ⟨w, ws, e, r, rs⟩ => ⟨w, ws, e, Rep.mono hN hL r, Reps.mono hN hL rs⟩
theorem RepK.mono (hN : ∀ a, N a → H a ≠ none → N' a) (hL : Le H H') : ∀ {ds : List (Key × D)} {vs : List (Key × V)}, RepK G N H ds vs → RepK G N' H' ds vs
  | [], _, h => h
  | (_, _) :: _, _, ⟨w, ws, e, r, rs⟩ => ⟨w, ws, e, Rep.mono hN hL r, RepK.mono hN hL rs⟩
theorem RepF.mono (hN : ∀ a, N a → H a ≠ none → N' a) (hL : Le H H') : ∀ {ds : List (Str × D)} {vs : List (Str × V)}, RepF G N H ds vs → RepF G N' H' ds vs
  | [], _, h => h
  | (_, _) :: _, _, ⟨w, ws, e, r, rs⟩ => ⟨w, ws, e, Rep.mono hN hL r, RepF.mono hN hL rs⟩
end

abbrev NT : Addr → Prop := fun _ => True
theorem Rep.top {d : D} {v : V} (h : Rep G N H d v) : Rep G NT H d v := h.mono (fun _ _ _ => trivial) (Le.refl H)
theorem Rep.same {d : D} {v : V} (h : Rep G N H d v) (s : Same G H H') : Rep G N H' d v := h.mono (fun _ z _ => z) (Le.of s)
theorem Reps.same {ds : List D} {vs : List V} (h : Reps G N H ds vs) (s : Same G H H') : Reps G N H' ds vs := h.mono (fun _ z _ => z) (Le.of s)
theorem Reps.length : ∀ {ds : List D} {vs : List V}, Reps G N H ds vs → vs.length = ds.length
  | [], _, h => by rw [show _ = [] from h]; rfl
  | _ :: ds, _, ⟨w, ws, e, _, rs⟩ => by rw [e, List.length_cons, List.length_cons, Reps.length rs]
theorem Reps.get : ∀ {ds : List D} {vs : List V} {i : Nat} {v : V}, Reps G N H ds vs → vs[i]? = some v → ∃ d, ds[i]? = some d ∧ Rep G N H d v
  | [], _, i, v, h, e => by rw [show _ = [] from h] at e; simp at e
  | d :: ds, _, 0, v, ⟨w, ws, e, r, _⟩, q => by subst e; simp at q; subst q; exact ⟨d, rfl, r⟩
  | d :: ds, _, i + 1, v, ⟨w, ws, e, _, rs⟩, q => by subst e; exact Reps.get (i := i) rs (by simpa using q)
theorem Reps.get' : ∀ {ds : List D} {vs : List V} {i : Nat} {d : D}, Reps G N H ds vs → ds[i]? = some d → ∃ v, vs[i]? = some v ∧ Rep G N H d v
  | [], _, i, d, h, e => by simp at e
  | d' :: ds, _, 0, d, ⟨w, ws, e, r, _⟩, q => by subst e; simp at q; subst q; exact ⟨w, rfl, r⟩
  | d' :: ds, _, i + 1, d, ⟨w, ws, e, _, rs⟩, q => by
    subst e
    obtain ⟨v, h1, h2⟩ := Reps.get' (i := i) rs (by simpa using q)
    exact ⟨v, by simpa using h1, h2⟩
theorem Reps.app : ∀ {ds es : List D} {vs ws : List V}, Reps G N H ds vs → Reps G N H es ws → Reps G N H (ds ++ es) (vs ++ ws)
  | [], _, _, _, h, h' => by rw [show _ = [] from h]; exact h'
  | _ :: _, _, _, _, ⟨w, ws, e, r, rs⟩, h' => by subst e; exact ⟨w, _, rfl, r, Reps.app rs h'⟩
theorem Reps.one {d : D} {v : V} (r : Rep G N H d v) : Reps G N H [d] [v] := ⟨v, [], rfl, r, rfl⟩
theorem Reps.cons {d : D} {v : V} {ds : List D} {vs : List V} (r : Rep G N H d v) (rs : Reps G N H ds vs) : Reps G N H (d :: ds) (v :: vs) := ⟨v, vs, rfl, r, rs⟩
end

/-! ### programs over data: what must hold so that an end is reached -/
abbrev W (ε α : Type) := (α → Prop) → (ε → Prop) → Prop
namespace W
variable {ε α β : Type}
def ret (a : α) : W ε α := fun Q _ => Q a
def bind (m : W ε α) (k : α → W ε β) : W ε β := fun Q E => m (fun a => k a Q E) E
def fail : W ε α := fun _ _ => False
def raise (e : ε) : W ε α := fun _ E => E e
def all {ι : Type} (p : ι → Prop) (k : ι → W ε α) : W ε α := fun Q E => ∀ i, p i → k i Q E
/-- nothing may be raised -/
def calm (m : W ε α) : W ε α := fun Q _ => m Q fun _ => False
/-- the exceptions by another type -/
def lift {δ : Type} (f : ε → δ) (m : W ε α) : W δ α := fun Q E => m Q fun e => E (f e)
structure Mono (m : W ε α) : Prop where
  run : ∀ {Q Q' : α → Prop} {E E' : ε → Prop}, (∀ a, Q a → Q' a) → (∀ e, E e → E' e) → m Q E → m Q' E'
theorem Mono.ret {a : α} : Mono (ret a : W ε α) := ⟨fun h _ q => h _ q⟩
theorem Mono.bind {m : W ε α} {k : α → W ε β} (hm : Mono m) (hk : ∀ a, Mono (k a)) : Mono (bind m k) := ⟨fun h g q => hm.run (fun a z => (hk a).run h g z) g q⟩
theorem Mono.fail : Mono (fail : W ε α) := ⟨fun _ _ q => q⟩
theorem Mono.raise {e : ε} : Mono (raise e : W ε α) := ⟨fun _ g q => g _ q⟩
theorem Mono.all {ι : Type} {p : ι → Prop} {k : ι → W ε α} (hk : ∀ i, Mono (k i)) : Mono (all p k) := ⟨fun h g q i hi => (hk i).run h g (q i hi)⟩
theorem Mono.calm {m : W ε α} (hm : Mono m) : Mono (calm m) := ⟨fun h _ q => hm.run h (fun _ z => z) q⟩
theorem Mono.lift {δ : Type} {f : ε → δ} {m : W ε α} (hm : Mono m) : Mono (lift f m) := ⟨fun h g q => hm.run h (fun _ z => g _ z) q⟩
end W

/-- an exception of a class with its own fields -/
structure Ex where
  cls : Str
  fs : List (Str × D)

/-- the addresses of N, and new ones -/
def Fr (N : Addr → Prop) (H : Hp) : Addr → Prop := fun a => N a ∨ H a = none
theorem Fr.of {N : Addr → Prop} {H : Hp} {a : Addr} (h : N a) : Fr N H a := .inl h
theorem Fr.step {N : Addr → Prop} {H H1 : Hp} (s : Same G H H1) {a : Addr} (h : Fr N H1 a) : Fr N H a := h.elim .inl fun z => .inr (s.free z)
theorem Fr.fr {N : Addr → Prop} {H H1 : Hp} (s : Same G H H1) {a : Addr} (h : Fr (Fr N H) H1 a) : Fr N H a := h.elim id fun z => .inr (s.free z)

/-- how an exception lies -/
def XRep (G : Wd) (N : Addr → Prop) (H : Hp) (x : Ex) (cls : Value) (dd : Option Addr) : Prop :=
  (G.mg x.cls = some cls ∨ (G.mg x.cls = none ∧ bootBuiltins x.cls = some cls)) ∧ ((x.fs = [] ∧ dd = none) ∨ ∃ d gs, dd = some d ∧ H d = some (.xd gs) ∧ RepF G N H x.fs gs)
theorem XRep.mono {G : Wd} {N N' : Addr → Prop} {H : Hp} {x : Ex} {c : Value} {dd : Option Addr} (h : XRep G N H x c dd) (hN : ∀ a, N a → N' a) : XRep G N' H x c dd :=
  ⟨h.1, h.2.elim .inl fun ⟨d, gs, e, q, r⟩ => .inr ⟨d, gs, e, q, r.mono (fun a z _ => hN a z) (Le.refl H)⟩⟩

abbrev Ro := List (Option D)
/-- the slots' data, as an expression sees them -/
structure ERel (G : Wd) (N : Addr → Prop) (H : Hp) (σ : Fb.St) (ρ : Ro) : Prop where
  tab : TabsG G H
  get : ∀ (i : Nat) (d : D), ρ[i]? = some (some d) → ∃ v, σ[i]? = some (some v) ∧ Rep G N H d v
theorem ERel.same {G : Wd} {N : Addr → Prop} {H H' : Hp} {σ : Fb.St} {ρ : Ro} (h : ERel G N H σ ρ) (s : Same G H H') : ERel G N H' σ ρ := ⟨s.tab h.tab, fun i d e =>
  let ⟨v, e', r⟩ := h.get i d e
  ⟨v, e', r.same s⟩⟩
theorem Rep.sub {G : Wd} {N N' : Addr → Prop} {H : Hp} {d : D} {v : V} (h : Rep G N H d v) (hN : ∀ a, N a → N' a) : Rep G N' H d v := h.mono (fun a z _ => hN a z) (Le.refl H)
theorem Reps.sub {G : Wd} {N N' : Addr → Prop} {H : Hp} {d : List D} {v : List V} (h : Reps G N H d v) (hN : ∀ a, N a → N' a) : Reps G N' H d v := h.mono (fun a z _ => hN a z) (Le.refl H)

/-- what is wanted behind an expression -/
def PoE (G : Wd) (N : Addr → Prop) (H : Hp) (Q : VK) (d : D) : Prop := ∀ v H', Same G H H' → Rep G (Fr N H) H' d v → Q v H'
def PoX (G : Wd) (N : Addr → Prop) (Wx : WX) (H : Hp) (σ : Fb.St) (x : Ex) : Prop := ∀ c dd H', Same G H H' → XRep G (Fr N H) H' x c dd → Wx c dd σ H'
theorem PoX.step {G : Wd} {N : Addr → Prop} {Wx : WX} {H H1 : Hp} {σ : Fb.St} {x : Ex} (h : PoX G N Wx H σ x) (s : Same G H H1) : PoX G N Wx H1 σ x := fun c dd H' s' r => h c dd H' (s.trans s') (r.mono fun _ z => z.step s)

def tE (G : Wd) (Wx : WX) (m : Ro → W Ex D) : TE := fun σ H Q => ∃ N ρ, ERel G N H σ ρ ∧ m ρ (PoE G N H Q) (PoX G N Wx H σ)
/-- the expression e means m -/
structure DE (G : Wd) (X : Cx) (Wx : WX) (e : Expr) (m : Ro → W Ex D) : Prop where
  pe : PE X e (tE G Wx m)
  mono : ∀ ρ, W.Mono (m ρ)
def PoT (G : Wd) (H : Hp) (Q : Bool → Hp → Prop) (b : Bool) : Prop := ∀ H', Same G H H' → Q b H'
def tT (G : Wd) (Wx : WX) (m : Ro → W Ex Bool) : TT := fun σ H Q => ∃ N ρ, ERel G N H σ ρ ∧ m ρ (PoT G H Q) (PoX G N Wx H σ)
/-- the test e means m -/
structure DT (G : Wd) (X : Cx) (Wx : WX) (e : Expr) (m : Ro → W Ex Bool) : Prop where
  pt : PT X e (tT G Wx m)
  mono : ∀ ρ, W.Mono (m ρ)
def PoA (G : Wd) (N : Addr → Prop) (H : Hp) (Q : List V → Hp → Prop) (ds : List D) : Prop := ∀ vs H', Same G H H' → Reps G (Fr N H) H' ds vs → Q vs H'
def tA (G : Wd) (Wx : WX) (m : Ro → W Ex (List D)) : TA := fun σ H Q => ∃ N ρ, ERel G N H σ ρ ∧ m ρ (PoA G N H Q) (PoX G N Wx H σ)
/-- the arguments es mean m -/
structure DA (G : Wd) (X : Cx) (Wx : WX) (es : List Expr) (m : Ro → W Ex (List D)) : Prop where
  pa : PA X es (tA G Wx m)
  mono : ∀ ρ, W.Mono (m ρ)
/-- the instance that an instance's attributes hold alone -/
def nestF : List (Str × D) → Option Addr
  | [] => none
  | (_, .obj l _ _) :: _ => some l
  | _ :: r => nestF r
def nestD : D → Option Addr
  | .obj _ _ fs => nestF fs
  | .stk _ _ x _ => some x
  | _ => none
def Nx (N : Addr → Prop) (fs : List (Str × D)) : Addr → Prop := fun b => N b ∨ nestF fs = some b
/-- a list or dict that stands alone at a; what is in it lies in N -/
def OwnT (G : Wd) (N : Addr → Prop) (H : Hp) (a : Addr) : D → Prop
  | .lst ds => ∃ vs, H a = some (.lst vs) ∧ Reps G N H ds vs
  | .dic kvs => ∃ ks, H a = some (.dK ks) ∧ RepK G N H kvs ks
  | .obj x c fs => a = x ∧ ∃ C dx gs, G.mg c = some (.ref C) ∧ H a = some (.ins C dx gs) ∧ RepF G (Nx N fs) H fs gs ∧ G.mut C
  | .stk ds p x rows => ∃ vs t v ws, H a = some (.lst (vs ++ [.ref t])) ∧ Reps G N H ds vs ∧ H t = some (.tup [v, .ref x]) ∧ Rep G N H p v ∧ H x = some (.lst ws) ∧ Reps G N H rows ws
  | .cel x ds => a = x ∧ ∃ vs, H a = some (.lst vs) ∧ Reps G N H ds vs
  | _ => False
def Fresh (G : Wd) (N : Addr → Prop) (H H' : Hp) (d : D) (v : V) : Prop := ∃ a, v = .ref a ∧ H a = none ∧ nestD d = none ∧ OwnT G (fun b => N b ∧ b ≠ a) H' a d
def PoR (G : Wd) (N : Addr → Prop) (H : Hp) (Q : VK) (r : Bool × D) : Prop := ∀ v H', Same G H H' → Rep G (Fr N H) H' r.2 v → (r.1 = true → Fresh G (Fr N H) H H' r.2 v) → Q v H'
def tR (G : Wd) (Wx : WX) (m : Ro → W Ex (Bool × D)) : TE := fun σ H Q => ∃ N ρ, ERel G N H σ ρ ∧ m ρ (PoR G N H Q) (PoX G N Wx H σ)
/-- .. and whether the value is new, nobody's but its holder's -/
structure DR (G : Wd) (X : Cx) (Wx : WX) (e : Expr) (m : Ro → W Ex (Bool × D)) : Prop where
  pe : PE X e (tR G Wx m)
  mono : ∀ ρ, W.Mono (m ρ)

section
variable {G : Wd} {X : Cx} {Wx : WX}
theorem DE.imp {e : Expr} {m : Ro → W Ex D} {t : TE} (mono : ∀ ρ, W.Mono (m ρ)) (h : PE X e t) (i : ∀ N ρ σ H Q, ERel G N H σ ρ → m ρ (PoE G N H Q) (PoX G N Wx H σ) → t σ H Q) : DE G X Wx e m :=
  ⟨⟨fun pins s σ H Q I ⟨N, ρ, r, q⟩ => h.run pins s σ H Q I (i N ρ σ H Q r q)⟩, mono⟩
theorem DT.imp {e : Expr} {m : Ro → W Ex Bool} {t : TT} (mono : ∀ ρ, W.Mono (m ρ)) (h : PT X e t) (i : ∀ N ρ σ H Q, ERel G N H σ ρ → m ρ (PoT G H Q) (PoX G N Wx H σ) → t σ H Q) : DT G X Wx e m :=
  ⟨⟨fun pins s σ H Q I ⟨N, ρ, r, q⟩ => h.run pins s σ H Q I (i N ρ σ H Q r q)⟩, mono⟩
theorem DA.imp {e : List Expr} {m : Ro → W Ex (List D)} {t : TA} (mono : ∀ ρ, W.Mono (m ρ)) (h : PA X e t) (i : ∀ N ρ σ H Q, ERel G N H σ ρ → m ρ (PoA G N H Q) (PoX G N Wx H σ) → t σ H Q) : DA G X Wx e m :=
  ⟨⟨fun pos pins s σ H Q I ⟨N, ρ, r, q⟩ => h.run pos pins s σ H Q I (i N ρ σ H Q r q)⟩, mono⟩
theorem DR.imp {e : Expr} {m : Ro → W Ex (Bool × D)} {t : TE} (mono : ∀ ρ, W.Mono (m ρ)) (h : PE X e t) (i : ∀ N ρ σ H Q, ERel G N H σ ρ → m ρ (PoR G N H Q) (PoX G N Wx H σ) → t σ H Q) : DR G X Wx e m :=
  ⟨⟨fun pins s σ H Q I ⟨N, ρ, r, q⟩ => h.run pins s σ H Q I (i N ρ σ H Q r q)⟩, mono⟩
/-- what comes first is done: go on at the grown heap -/
theorem DE.go {e : Expr} {m : Ro → W Ex D} (h : DE G X Wx e m) {N : Addr → Prop} {ρ : Ro} {σ : Fb.St} {H : Hp} {Q : VK} (r : ERel G N H σ ρ) {P : D → Prop} {E : Ex → Prop} (q : m ρ P E)
    (hE : ∀ x, E x → PoX G N Wx H σ x) (hP : ∀ d v H1, P d → Same G H H1 → Rep G (Fr N H) H1 d v → ERel G N H1 σ ρ → Q v H1) : tE G Wx m σ H Q :=
  ⟨N, ρ, r, (h.mono ρ).run (fun d z v H1 s1 r1 => hP d v H1 z s1 r1 (r.same s1)) hE q⟩
theorem DT.go {e : Expr} {m : Ro → W Ex Bool} (h : DT G X Wx e m) {N : Addr → Prop} {ρ : Ro} {σ : Fb.St} {H : Hp} {Q : Bool → Hp → Prop} (r : ERel G N H σ ρ) {P : Bool → Prop} {E : Ex → Prop} (q : m ρ P E)
    (hE : ∀ x, E x → PoX G N Wx H σ x) (hP : ∀ b H1, P b → Same G H H1 → ERel G N H1 σ ρ → Q b H1) : tT G Wx m σ H Q :=
  ⟨N, ρ, r, (h.mono ρ).run (fun b z H1 s1 => hP b H1 z s1 (r.same s1)) hE q⟩
theorem DA.go {e : List Expr} {m : Ro → W Ex (List D)} (h : DA G X Wx e m) {N : Addr → Prop} {ρ : Ro} {σ : Fb.St} {H : Hp} {Q : List V → Hp → Prop} (r : ERel G N H σ ρ) {P : List D → Prop} {E : Ex → Prop} (q : m ρ P E)
    (hE : ∀ x, E x → PoX G N Wx H σ x) (hP : ∀ d v H1, P d → Same G H H1 → Reps G (Fr N H) H1 d v → ERel G N H1 σ ρ → Q v H1) : tA G Wx m σ H Q :=
  ⟨N, ρ, r, (h.mono ρ).run (fun d z v H1 s1 r1 => hP d v H1 z s1 r1 (r.same s1)) hE q⟩
theorem DR.de {e : Expr} {m : Ro → W Ex (Bool × D)} (h : DR G X Wx e m) : DE G X Wx e (fun ρ => W.bind (m ρ) fun r => W.ret r.2) :=
  DE.imp (fun ρ => (h.mono ρ).bind fun _ => W.Mono.ret) h.pe fun N ρ σ H Q r q => ⟨N, ρ, r, (h.mono ρ).run (fun _ z v H1 s1 r1 _ => z v H1 s1 r1) (fun _ z => z) q⟩
theorem DE.dr {e : Expr} {m : Ro → W Ex D} (h : DE G X Wx e m) : DR G X Wx e (fun ρ => W.bind (m ρ) fun d => W.ret (false, d)) :=
  DR.imp (fun ρ => (h.mono ρ).bind fun _ => W.Mono.ret) h.pe fun N ρ σ H Q r q => ⟨N, ρ, r, (h.mono ρ).run (fun _ z v H1 s1 r1 => z v H1 s1 r1 fun y => nomatch y) (fun _ z => z) q⟩

/-! ### names, constants -/
def gotD : Option (Option D) → W Ex D
  | some (some d) => W.ret d
  | _ => W.fail
theorem gotD_mono (o : Option (Option D)) : W.Mono (gotD o) := by
  rcases o with _ | _ | d
  · exact W.Mono.fail
  · exact W.Mono.fail
  · exact W.Mono.ret
theorem gotD_inv {o : Option (Option D)} {P : D → Prop} {E : Ex → Prop} (h : gotD o P E) : ∃ d, o = some (some d) ∧ P d := by
  rcases o with _ | _ | d
  · exact h.elim
  · exact h.elim
  · exact ⟨d, rfl, h⟩
def mVar (i : Nat) : Ro → W Ex D := fun ρ => gotD ρ[i]?
theorem de_var (i : Nat) {x : Str} {pos : Pos} (h : PE X (.Name x pos) (tVar i)) : DE G X Wx (.Name x pos) (mVar i) := by
  refine DE.imp (fun ρ => gotD_mono _) h fun N ρ σ H Q r q => ?_
  obtain ⟨d, e, q⟩ := gotD_inv q
  obtain ⟨v, e1, r1⟩ := r.get i d e
  exact ⟨v, e1, q v H (Same.refl H) (r1.sub fun _ => Fr.of)⟩
def mC (d : D) : Ro → W Ex D := fun _ => W.ret d
theorem de_const {e : Expr} {v : V} {d : D} (h : PE X e (tC v)) (r : ∀ N H, Rep G N H d v) : DE G X Wx e (mC d) :=
  DE.imp (fun _ => W.Mono.ret) h fun N ρ σ H Q _ q => q v H (Same.refl H) (r _ _)
theorem de_int {i j pos} : DE G X Wx (.Constant (.int i) j pos) (mC (.int i)) := de_const pe_int fun _ _ => rfl
theorem de_bl {i j pos} : DE G X Wx (.Constant (.bool i) j pos) (mC (.bl i)) := de_const pe_bl fun _ _ => rfl
theorem de_non {j pos} : DE G X Wx (.Constant .none j pos) (mC .non) := de_const pe_non fun _ _ => rfl
theorem de_str {i j pos} : DE G X Wx (.Constant (.str i) j pos) (mC (.str i)) := de_const pe_str fun _ _ => rfl

/-! ### arguments -/
def mNil : Ro → W Ex (List D) := fun _ => W.ret []
def mCons (m : Ro → W Ex D) (n : Ro → W Ex (List D)) : Ro → W Ex (List D) := fun ρ => W.bind (m ρ) fun d => W.bind (n ρ) fun ds => W.ret (d :: ds)
theorem da_nil : DA G X Wx [] mNil := DA.imp (fun _ => W.Mono.ret) pa_nil fun N ρ σ H Q _ q => q [] H (Same.refl H) rfl
theorem da_cons {e : Expr} {es : List Expr} {m : Ro → W Ex D} {n : Ro → W Ex (List D)} (h : DE G X Wx e m) (hs : DA G X Wx es n) (st : starEach (e :: es) X.env = (false, eval e X.env) :: starEach es X.env := by rfl) :
    DA G X Wx (e :: es) (mCons m n) := by
  refine DA.imp (fun ρ => (h.mono ρ).bind fun d => (hs.mono ρ).bind fun ds => W.Mono.ret) (pa_cons h.pe hs.pa st) fun N ρ σ H Q r q => ?_
  refine h.go r q (fun x z => z) fun d v H1 z s1 r1 rr => ?_
  refine hs.go rr z (fun x z => z.step s1) fun ds vs H2 z s2 r2 _ => ?_
  exact z (v :: vs) H2 (s1.trans s2) (.cons (r1.same s2) (r2.sub fun _ z => z.step s1))

/-! ### operators, by values -/
/-- g tells what f does on data -/
def DOp (G : Wd) (X : Cx) (r : R2) (g : D → D → W Ex D) : Prop :=
  (∀ a b, W.Mono (g a b)) ∧ ∀ N H a b x y Q, Rep G N H a x → Rep G N H b y → g a b (fun d => ∀ v H', Same G H H' → Rep G (Fr N H) H' d v → Q v H') (fun _ => False) → r x y H Q
def mOp (g : D → D → W Ex D) (m n : Ro → W Ex D) : Ro → W Ex D := fun ρ => W.bind (m ρ) fun a => W.bind (n ρ) fun b => W.calm (g a b)
theorem op_two {a b : Expr} {m n : Ro → W Ex D} {r : R2} {g : D → D → W Ex D} (hg : DOp G X r g) (ha : DE G X Wx a m) (hb : DE G X Wx b n) {N : Addr → Prop} {ρ : Ro} {σ : Fb.St} {H : Hp} {Q : VK} (rr : ERel G N H σ ρ)
    (q : mOp g m n ρ (PoE G N H Q) (PoX G N Wx H σ)) : tOp r (tE G Wx m) (tE G Wx n) σ H Q := by
  refine ha.go rr q (fun x z => z) fun d v H1 z s1 r1 rr1 => ?_
  refine hb.go rr1 z (fun x z => z.step s1) fun e u H2 z s2 r2 rr2 => ?_
  refine hg.2 (Fr N H) H2 d e v u Q (r1.same s2) (r2.sub fun _ z => z.step s1) ?_
  exact (hg.1 d e).run (fun d z v H' s r => z v H' ((s1.trans s2).trans s) (r.sub fun _ y => y.fr (s1.trans s2))) (fun _ z => z) z
theorem mOp_mono {a b : Expr} {m n : Ro → W Ex D} {r : R2} {g : D → D → W Ex D} (hg : DOp G X r g) (ha : DE G X Wx a m) (hb : DE G X Wx b n) (ρ : Ro) : W.Mono (mOp g m n ρ) :=
  (ha.mono ρ).bind fun d => (hb.mono ρ).bind fun e => (hg.1 d e).calm
theorem de_op {op : Operator} {a b : Expr} {m n : Ro → W Ex D} {r : R2} {g : D → D → W Ex D} {pos : Pos} (ho : OpR X (binaryOp op) r) (hg : DOp G X r g) (ha : DE G X Wx a m) (hb : DE G X Wx b n) : DE G X Wx (.BinOp a op b pos) (mOp g m n) :=
  DE.imp (mOp_mono hg ha hb) (pe_op ho ha.pe hb.pe) fun N ρ σ H Q rr q => op_two hg ha hb rr q
theorem de_cmp {op : CmpOp} {a b : Expr} {m n : Ro → W Ex D} {r : R2} {g : D → D → W Ex D} {pos : Pos} (ho : OpR X (compareOp op) r) (hg : DOp G X r g) (ha : DE G X Wx a m) (hb : DE G X Wx b n) (hm : behindInMarks op b = false) : DE G X Wx (.Compare a [op] [b] pos) (mOp g m n) :=
  DE.imp (mOp_mono hg ha hb) (pe_cmpR ho ha.pe hb.pe hm) fun N ρ σ H Q rr q => op_two hg ha hb rr q
end
end Fb
end

section
set_option Elab.async false
set_option linter.all false
set_option maxRecDepth 100000
set_option maxHeartbeats 4000000
/-! Statements over data; which slots hold a list or dict alone. -/
namespace Fb
open PySem PySem.Spec PyProof.Rows L2

/-- what can be changed -/
def isM (G : Wd) : HO → Prop
  | .lst _ => True
  | .dK _ => True
  | .ins C _ _ => G.mut C
  | _ => False

mutual
/-- nothing that can be changed is in it -/
def imm : D → Bool
  | .tup xs => imms xs
  | .lst _ => false
  | .dic _ => false
  | .ins _ fs => immF fs
  | .obj _ _ _ => false
  | .stk _ _ _ _ => false
  | .non => true
  | .bl _ => true
  | .int _ => true
  | .str _ => true
  | .box _ => true
  | .exn _ _ fs => immF fs
  | .erv _ _ _ fs => immF fs
  | .cel _ _ => false
  | .ty _ => true
  | .cls _ => true
  | .raw _ => true
  | .scr _ => true
  | .clo _ cs => imms cs
def imms : List D → Bool
  | [] => true
  | x :: xs => imm x && imms xs
def immF : List (Str × D) → Bool
  | [] => true
  | (_, x) :: xs => imm x && immF xs
end
def immK : List (Key × D) → Bool
  | [] => true
  | (_, x) :: xs => imm x && immK xs
/-- .. of attributes, but for one instance that is held alone -/
def immN : List (Str × D) → Bool
  | [] => true
  | (_, .obj _ _ fs) :: r => immF fs && immF r
  | (_, x) :: r => imm x && immN r
/-- what is in a list or dict can't be changed -/
def immTop : D → Bool
  | .lst ds => imms ds
  | .dic kvs => immK kvs
  | .obj _ _ fs => immN fs
  | .stk ds p _ rows => imms ds && (imm p && imms rows)
  | .cel _ ds => imms ds
  | d => imm d
section
variable {G : Wd} {N N' : Addr → Prop} {H : Hp}
theorem and_l {a b : Bool} (h : (a && b) = true) : a = true := (Bool.and_eq_true_iff.mp h).1
theorem and_r {a b : Bool} (h : (a && b) = true) : b = true := (Bool.and_eq_true_iff.mp h).2
mutual
theorem Rep.imm : ∀ {d : D} {v : V}, imm d = true → Rep G N H d v → Rep G N' H d v
  | .non, _, _, h => h
  | .bl _, _, _, h => h
  | .int _, _, _, h => h
  | .str _, _, _, h => h
  | .tup ds, _, i, ⟨a, vs, e, q, r⟩ => ⟨a, vs, e, q, Reps.imm (by simpa [Fb.imm] using i) r⟩
  | .lst ds, _, i, _ => by simp [Fb.imm] at i
  | .dic kvs, _, i, _ => by simp [Fb.imm] at i
  | .ins c fs, _, i, ⟨a, C, dx, gs, e, m, q, r, t⟩ => ⟨a, C, dx, gs, e, m, q, RepF.imm (by simpa [Fb.imm] using i) r, t⟩
  | .obj x c fs, _, i, _ => by simp [Fb.imm] at i
  | .stk _ _ _ _, _, i, _ => by simp [Fb.imm] at i
  | .box n, _, _, h => h
  | .exn x dd fs, _, i, ⟨e, q⟩ => ⟨e, fun d ed => (q d ed).elim fun gs z => ⟨gs, z.1, RepF.imm (by simpa [Fb.imm] using i) z.2⟩⟩
  | .erv x c dd fs, _, i, ⟨e, q1, q⟩ => ⟨e, q1, fun d ed => (q d ed).elim fun gs z => ⟨gs, z.1, RepF.imm (by simpa [Fb.imm] using i) z.2⟩⟩
  | .cel _ _, _, i, _ => by simp [Fb.imm] at i
  | .ty n, _, _, h => h
  | .cls n, _, _, h => h
  | .raw n, _, _, h => h
  | .scr n, _, _, h => h
  | .clo _ cs, _, i, ⟨e, q, r⟩ => ⟨e, q, Reps.imm (by simpa [Fb.imm] using i) r⟩
theorem Reps.imm : ∀ {ds : List D} {vs : List V}, imms ds = true → Reps G N H ds vs → Reps G N' H ds vs
  | [], _, _, h => h
  | _ :: _, _, i, ⟨w, ws, e, r, rs⟩ => ⟨w, ws, e, Rep.imm (and_l (by simpa [imms] using i)) r, Reps.imm (and_r (by simpa [imms] using i)) rs⟩
theorem RepF.imm : ∀ {ds : List (Str × D)} {vs : List (Str × V)}, immF ds = true → RepF G N H ds vs → RepF G N' H ds vs
  | [], _, _, h => h
  | (_, _) :: _, _, i, ⟨w, ws, e, r, rs⟩ => ⟨w, ws, e, Rep.imm (and_l (by simpa [immF] using i)) r, RepF.imm (and_r (by simpa [immF] using i)) rs⟩
end
theorem RepK.imm : ∀ {ds : List (Key × D)} {vs : List (Key × V)}, immK ds = true → RepK G N H ds vs → RepK G N' H ds vs
  | [], _, _, h => h
  | (_, _) :: _, _, i, ⟨w, ws, e, r, rs⟩ => ⟨w, ws, e, Rep.imm (and_l (by simpa [immK] using i)) r, RepK.imm (and_r (by simpa [immK] using i)) rs⟩
theorem RepF.immN : ∀ {ds : List (Str × D)} {vs : List (Str × V)}, immN ds = true → (∀ b, nestF ds = some b → N b → N' b) → RepF G N H ds vs → RepF G N' H ds vs
  | [], _, _, _, h => h
  | (k, d) :: r, _, i, hn, ⟨w, ws, e, rd, rs⟩ => by
    cases d with
    | obj l c fs =>
      have i : (immF fs && immF r) = true := i
      obtain ⟨e1, n, C, dx, gs, m, q, rf, t⟩ := rd
      exact ⟨w, ws, e, ⟨e1, hn l rfl n, C, dx, gs, m, q, RepF.imm (and_l i) rf, t⟩, RepF.imm (and_r i) rs⟩
    | _ => exact ⟨w, ws, e, Rep.imm (and_l i) rd, RepF.immN (and_r i) hn rs⟩
theorem Nx.mono {fs : List (Str × D)} (h : ∀ b, N b → N' b) (b : Addr) (z : Nx N fs b) : Nx N' fs b := z.elim (fun n => .inl (h b n)) .inr
theorem OwnT.mono {H' : Hp} {a : Addr} {d : D} (hN : ∀ b, N b → H b ≠ none → N' b) (hs : Same G H H') (h : OwnT G N H a d) : OwnT G N' H' a d := by
  cases d with
  | lst ds => obtain ⟨vs, e, r⟩ := h; exact ⟨vs, hs.at e, r.mono hN (Le.of hs)⟩
  | dic ds => obtain ⟨vs, e, r⟩ := h; exact ⟨vs, hs.at e, RepK.mono hN (Le.of hs) r⟩
  | obj x c fs => obtain ⟨e0, C, dx, gs, m, e, r, t⟩ := h; exact ⟨e0, C, dx, gs, m, hs.at e, RepF.mono (fun b z y => z.elim (fun n => .inl (hN b n y)) .inr) (Le.of hs) r, t⟩
  | stk ds p x rows => obtain ⟨vs, t, v, ws, h1, h2, h3, h4, h5, h6⟩ := h; exact ⟨vs, t, v, ws, hs.at h1, h2.mono hN (Le.of hs), hs.at h3, h4.mono hN (Le.of hs), hs.at h5, h6.mono hN (Le.of hs)⟩
  | cel x ds => obtain ⟨e0, vs, e, r⟩ := h; exact ⟨e0, vs, hs.at e, r.mono hN (Le.of hs)⟩
  | _ => exact h.elim
theorem OwnT.imm {a : Addr} {d : D} (i : immTop d = true) (h : OwnT G N H a d) : OwnT G N' H a d := by
  cases d with
  | lst ds => obtain ⟨vs, e, r⟩ := h; exact ⟨vs, e, Reps.imm i r⟩
  | dic ds => obtain ⟨vs, e, r⟩ := h; exact ⟨vs, e, RepK.imm i r⟩
  | obj x c fs => obtain ⟨e0, C, dx, gs, m, e, r, t⟩ := h; exact ⟨e0, C, dx, gs, m, e, RepF.immN i (fun b z _ => .inr z) r, t⟩
  | stk ds p x rows =>
    obtain ⟨vs, t, v, ws, h1, h2, h3, h4, h5, h6⟩ := h
    have i : (imms ds && (Fb.imm p && imms rows)) = true := i
    exact ⟨vs, t, v, ws, h1, Reps.imm (and_l i) h2, h3, Rep.imm (and_l (and_r i)) h4, h5, Reps.imm (and_r (and_r i)) h6⟩
  | cel x ds => obtain ⟨e0, vs, e, r⟩ := h; exact ⟨e0, vs, e, Reps.imm i r⟩
  | _ => exact h.elim
theorem OwnT.some {a : Addr} {d : D} (h : OwnT G N H a d) : H a ≠ none := by
  cases d with
  | lst ds => obtain ⟨vs, e, r⟩ := h; rw [e]; exact fun z => nomatch z
  | dic ds => obtain ⟨vs, e, r⟩ := h; rw [e]; exact fun z => nomatch z
  | obj x c fs => obtain ⟨e0, C, dx, gs, m, e, r, t⟩ := h; rw [e]; exact fun z => nomatch z
  | stk ds p x rows => obtain ⟨vs, t, v, ws, e, _⟩ := h; rw [e]; exact fun z => nomatch z
  | cel x ds => obtain ⟨e0, vs, e, r⟩ := h; rw [e]; exact fun z => nomatch z
  | _ => exact h.elim
theorem OwnT.kind {a : Addr} {d : D} (h : OwnT G N H a d) : ∃ o, H a = Option.some o ∧ isM G o := by
  cases d with
  | lst ds => obtain ⟨vs, e, r⟩ := h; exact ⟨_, e, trivial⟩
  | dic ds => obtain ⟨vs, e, r⟩ := h; exact ⟨_, e, trivial⟩
  | obj x c fs => obtain ⟨e0, C, dx, gs, m, e, r, t⟩ := h; exact ⟨_, e, t⟩
  | stk ds p x rows => obtain ⟨vs, t, v, ws, e, _⟩ := h; exact ⟨_, e, trivial⟩
  | cel x ds => obtain ⟨e0, vs, e, r⟩ := h; exact ⟨_, e, trivial⟩
  | _ => exact h.elim
theorem OwnT.rep {a : Addr} {d : D} (ha : N a) (hn : ∀ l, nestD d = Option.some l → N l) (h : OwnT G N H a d) : Rep G N H d (.ref a) := by
  cases d with
  | lst ds => obtain ⟨vs, e, r⟩ := h; exact ⟨a, vs, rfl, ha, e, r⟩
  | dic ds => obtain ⟨vs, e, r⟩ := h; exact ⟨a, vs, rfl, ha, .inl e, r⟩
  | obj x c fs => obtain ⟨e0, C, dx, gs, m, e, r, t⟩ := h; subst e0; exact ⟨rfl, ha, C, dx, gs, m, e, RepF.mono (fun b z _ => z.elim id (hn b)) (Le.refl H) r, t⟩
  | stk ds p x rows => exact ⟨a, rfl⟩
  | cel x ds => obtain ⟨e0, vs, e, r⟩ := h; subst e0; exact ⟨rfl, ha, vs, e, r⟩
  | _ => exact h.elim
end

abbrev En := List (Option (Bool × D))
def seeFrom (fz : List Nat) : Nat → En → Ro
  | _, [] => []
  | i, none :: r => none :: seeFrom fz (i + 1) r
  | i, some (b, d) :: r => (if b && !(fz.contains i) then none else some d) :: seeFrom fz (i + 1) r
/-- what an expression sees: slots that are not held alone, and those at fz -/
def see (fz : List Nat) (ρ : En) : Ro := seeFrom fz 0 ρ
def frzFrom (fz : List Nat) : Nat → En → En
  | _, [] => []
  | i, none :: r => none :: frzFrom fz (i + 1) r
  | i, some (b, d) :: r => some (b && !(fz.contains i), d) :: frzFrom fz (i + 1) r
/-- those at fz are held alone no more -/
def frz (fz : List Nat) (ρ : En) : En := frzFrom fz 0 ρ
def roFrom : En → Ro
  | [] => []
  | none :: r => none :: roFrom r
  | some (_, d) :: r => some d :: roFrom r
/-- all slots -/
def ro (ρ : En) : Ro := roFrom ρ
theorem seeFrom_at {fz : List Nat} : ∀ {ρ : En} {k i : Nat} {d : D}, (seeFrom fz k ρ)[i]? = some (some d) → ∃ b, ρ[i]? = some (some (b, d)) ∧ (b = false ∨ k + i ∈ fz)
  | [], _, _, _, h => by simp [seeFrom] at h
  | none :: r, k, 0, d, h => by simp [seeFrom] at h
  | some (b, d') :: r, k, 0, d, h => by
    simp only [seeFrom, List.getElem?_cons_zero, Option.some.injEq] at h
    split at h
    · cases h
    · rename_i q
      cases h
      refine ⟨b, rfl, ?_⟩
      cases b with
      | false => exact .inl rfl
      | true =>
        refine .inr ?_
        simpa using q
  | none :: r, k, i + 1, d, h => by
    obtain ⟨b, e, q⟩ := seeFrom_at (ρ := r) (k := k + 1) (i := i) (by simpa [seeFrom] using h)
    exact ⟨b, by simpa using e, by rwa [Nat.add_assoc, Nat.add_comm 1 i] at q⟩
  | some (b', d') :: r, k, i + 1, d, h => by
    obtain ⟨b, e, q⟩ := seeFrom_at (ρ := r) (k := k + 1) (i := i) (by simpa [seeFrom] using h)
    exact ⟨b, by simpa using e, by rwa [Nat.add_assoc, Nat.add_comm 1 i] at q⟩
theorem see_at {fz : List Nat} {ρ : En} {i : Nat} {d : D} (h : (see fz ρ)[i]? = some (some d)) : ∃ b, ρ[i]? = some (some (b, d)) ∧ (b = false ∨ i ∈ fz) := by
  obtain ⟨b, e, q⟩ := seeFrom_at h
  exact ⟨b, e, by rwa [Nat.zero_add] at q⟩
theorem frzFrom_at {fz : List Nat} : ∀ {ρ : En} {k i : Nat} {b : Bool} {d : D}, (frzFrom fz k ρ)[i]? = some (some (b, d)) → ∃ b', ρ[i]? = some (some (b', d)) ∧ b = (b' && !(fz.contains (k + i)))
  | [], _, _, _, _, h => by simp [frzFrom] at h
  | none :: r, k, 0, b, d, h => by simp [frzFrom] at h
  | some (b', d') :: r, k, 0, b, d, h => by
    simp only [frzFrom, List.getElem?_cons_zero, Option.some.injEq, Prod.mk.injEq] at h
    exact ⟨b', by simp [h.2], h.1.symm⟩
  | none :: r, k, i + 1, b, d, h => by
    obtain ⟨b', e, q⟩ := frzFrom_at (ρ := r) (k := k + 1) (i := i) (by simpa [frzFrom] using h)
    exact ⟨b', by simpa using e, by rwa [Nat.add_assoc, Nat.add_comm 1 i] at q⟩
  | some (b'', d') :: r, k, i + 1, b, d, h => by
    obtain ⟨b', e, q⟩ := frzFrom_at (ρ := r) (k := k + 1) (i := i) (by simpa [frzFrom] using h)
    exact ⟨b', by simpa using e, by rwa [Nat.add_assoc, Nat.add_comm 1 i] at q⟩
theorem frz_at {fz : List Nat} {ρ : En} {i : Nat} {b : Bool} {d : D} (h : (frz fz ρ)[i]? = some (some (b, d))) : ∃ b', ρ[i]? = some (some (b', d)) ∧ b = (b' && !(fz.contains i)) := by
  obtain ⟨b', e, q⟩ := frzFrom_at h
  exact ⟨b', e, by rwa [Nat.zero_add] at q⟩
theorem frzFrom_len {fz : List Nat} : ∀ {ρ : En} {k : Nat}, (frzFrom fz k ρ).length = ρ.length
  | [], _ => rfl
  | none :: r, k => congrArg (· + 1) (frzFrom_len (ρ := r) (k := k + 1))
  | some _ :: r, k => congrArg (· + 1) (frzFrom_len (ρ := r) (k := k + 1))
theorem frz_len {fz : List Nat} {ρ : En} : (frz fz ρ).length = ρ.length := frzFrom_len
theorem roFrom_at : ∀ {ρ : En} {i : Nat} {d : D}, (roFrom ρ)[i]? = some (some d) → ∃ b, ρ[i]? = some (some (b, d))
  | [], _, _, h => by simp [roFrom] at h
  | none :: r, 0, d, h => by simp [roFrom] at h
  | some (b, d') :: r, 0, d, h => by
    simp only [roFrom, List.getElem?_cons_zero, Option.some.injEq] at h
    exact ⟨b, by simp [h]⟩
  | none :: r, i + 1, d, h => roFrom_at (ρ := r) (i := i) (by simpa [roFrom] using h)
  | some (b', d') :: r, i + 1, d, h => roFrom_at (ρ := r) (i := i) (by simpa [roFrom] using h)

/-- not among the addresses that are held alone -/
def Out (N0 : Addr → Prop) (H0 : Hp) (S : Nat ⊕ Nat → Option Addr) : Addr → Prop := fun a => Fr N0 H0 a ∧ ∀ j, S j ≠ some a
structure OwnOk (G : Wd) (H0 : Hp) (N0 : Addr → Prop) (S : Nat ⊕ Nat → Option Addr) (σ : Fb.St) (H : Hp) (ρ : En) : Prop where
  new : ∀ (i : Nat ⊕ Nat) (a : Addr), S i = some a → H0 a = none ∧ H a ≠ none
  kind : ∀ (i : Nat ⊕ Nat) (a : Addr), S i = some a → ∃ o, H a = some o ∧ isM G o
  inj : ∀ (i j : Nat ⊕ Nat) (a : Addr), S i = some a → S j = some a → i = j
  shr : ∀ (i : Nat) (d : D), ρ[i]? = some (some (false, d)) → ∃ v, σ[i]? = some (some v) ∧ Rep G (Out N0 H0 S) H d v
  own : ∀ (i : Nat) (d : D), ρ[i]? = some (some (true, d)) → ∃ a, σ[i]? = some (some (.ref a)) ∧ S (.inl i) = some a ∧ OwnT G (Out N0 H0 S) H a d
  nst : ∀ (i : Nat) (d : D) (l : Addr), ρ[i]? = some (some (true, d)) → nestD d = some l → S (.inr i) = some l
/-- the slots' data as a statement knows them; H0: what stands still -/
structure SRel (G : Wd) (H0 : Hp) (N0 : Addr → Prop) (σ : Fb.St) (H : Hp) (ρ : En) : Prop where
  same : Same1 G H0 H
  len : ρ.length = σ.length
  own : ∃ S, OwnOk G H0 N0 S σ H ρ

section
variable {G : Wd} {H0 H H1 : Hp} {N0 : Addr → Prop} {S : Nat ⊕ Nat → Option Addr} {σ : Fb.St} {ρ : En}
def cut (fz : List Nat) (S : Nat ⊕ Nat → Option Addr) : Nat ⊕ Nat → Option Addr := fun i => if fz.contains (i.elim id id) then none else S i
theorem cut_some {fz : List Nat} {S : Nat ⊕ Nat → Option Addr} {i : Nat ⊕ Nat} {a : Addr} (h : cut fz S i = some a) : S i = some a ∧ i.elim id id ∉ fz := by
  unfold cut at h
  split at h
  · cases h
  · rename_i q
    exact ⟨h, by simpa using q⟩
theorem Out.cut {fz : List Nat} {a : Addr} (h : Out N0 H0 S a) : Out N0 H0 (cut fz S) a := ⟨h.1, fun j z => h.2 j (cut_some z).1⟩
theorem OwnOk.cutOut (o : OwnOk G H0 N0 S σ H ρ) {fz : List Nat} {k : Nat ⊕ Nat} {a : Addr} (e : S k = some a) (hk : k.elim id id ∈ fz) : Out N0 H0 (Fb.cut fz S) a :=
  ⟨.inr (o.new k a e).1, fun j z => (cut_some z).2 (o.inj k j a e (cut_some z).1 ▸ hk)⟩
theorem OwnOk.sees (o : OwnOk G H0 N0 S σ H ρ) (tb : TabsG G H) (fz : List Nat) : ERel G (Out N0 H0 (cut fz S)) H σ (see fz ρ) := ⟨tb, fun i d e => by
  obtain ⟨b, e, q⟩ := see_at e
  cases b with
  | false =>
    obtain ⟨v, e1, r⟩ := o.shr i d e
    exact ⟨v, e1, r.sub fun _ => Out.cut⟩
  | true =>
    have hi : i ∈ fz := q.elim (fun z => nomatch z) id
    obtain ⟨a, e1, e2, r⟩ := o.own i d e
    exact ⟨_, e1, OwnT.rep (o.cutOut e2 hi) (fun l hl => o.cutOut (o.nst i d l e hl) hi) (r.mono (fun b z _ => Out.cut z) (Same.refl H))⟩⟩
theorem Out.fr {a : Addr} (h : Out N0 H0 S a) : Fr N0 H0 a := h.1
theorem SRel.ro (s : SRel G H0 N0 σ H ρ) : ERel G (Fr N0 H0) H σ (ro ρ) := ⟨s.same.tb, fun i d e => by
  obtain ⟨S, o⟩ := s.own
  obtain ⟨b, e⟩ := roFrom_at e
  cases b with
  | false =>
    obtain ⟨v, e1, r⟩ := o.shr i d e
    exact ⟨v, e1, r.sub fun _ => Out.fr⟩
  | true =>
    obtain ⟨a, e1, e2, r⟩ := o.own i d e
    exact ⟨_, e1, OwnT.rep (.inr (o.new _ a e2).1) (fun l hl => .inr (o.new _ l (o.nst i d l e hl)).1) (r.mono (fun b z _ => Out.fr z) (Same.refl H))⟩⟩
theorem OwnOk.same (o : OwnOk G H0 N0 S σ H ρ) (s : Same G H H1) : OwnOk G H0 N0 S σ H1 ρ where
  new := fun i a e => ⟨(o.new i a e).1, fun z => (o.new i a e).2 (s.free z)⟩
  kind := fun i a e => let ⟨u, h, k⟩ := o.kind i a e; ⟨u, s.at h (fun ps z => by subst z; exact k), k⟩
  inj := o.inj
  shr := fun i d e => let ⟨v, e1, r⟩ := o.shr i d e; ⟨v, e1, r.same s⟩
  own := fun i d e => let ⟨a, e1, e2, r⟩ := o.own i d e; ⟨a, e1, e2, r.mono (fun _ z _ => z) s⟩
  nst := o.nst
theorem SRel.step (x : SRel G H0 N0 σ H ρ) (s : Same G H H1) : SRel G H0 N0 σ H1 ρ :=
  ⟨x.same.trans s, x.len, let ⟨S, o⟩ := x.own; ⟨S, o.same s⟩⟩
/-- those at fz are held alone no more -/
theorem OwnOk.frz (o : OwnOk G H0 N0 S σ H ρ) (fz : List Nat) : OwnOk G H0 N0 (cut fz S) σ H (frz fz ρ) where
  new := fun i a e => o.new i a (cut_some e).1
  kind := fun i a e => o.kind i a (cut_some e).1
  inj := fun i j a e1 e2 => o.inj i j a (cut_some e1).1 (cut_some e2).1
  shr := fun i d e => by
    obtain ⟨b', e, q⟩ := frz_at e
    cases b' with
    | false =>
      obtain ⟨v, e1, r⟩ := o.shr i d e
      exact ⟨v, e1, r.sub fun _ => Out.cut⟩
    | true =>
      have hi : i ∈ fz := by simpa using q
      obtain ⟨a, e1, e2, r⟩ := o.own i d e
      exact ⟨_, e1, OwnT.rep (o.cutOut e2 hi) (fun l hl => o.cutOut (o.nst i d l e hl) hi) (r.mono (fun b z _ => Out.cut z) (Same.refl H))⟩
  own := fun i d e => by
    obtain ⟨b', e, q⟩ := frz_at e
    cases b' with
    | false => cases q
    | true =>
      have hi : i ∉ fz := by simpa using q
      obtain ⟨a, e1, e2, r⟩ := o.own i d e
      refine ⟨a, e1, ?_, r.mono (fun b z _ => Out.cut z) (Same.refl H)⟩
      unfold Fb.cut
      rw [if_neg (by simpa using hi)]
      exact e2
  nst := fun i d l e hl => by
    obtain ⟨b', e, q⟩ := frz_at e
    cases b' with
    | false => cases q
    | true =>
      have hi : i ∉ fz := by simpa using q
      unfold Fb.cut
      rw [if_neg (by simpa using hi)]
      exact o.nst i d l e hl
theorem SRel.frz (x : SRel G H0 N0 σ H ρ) (fz : List Nat) : SRel G H0 N0 σ H (frz fz ρ) :=
  ⟨x.same, frz_len.trans x.len, let ⟨S, o⟩ := x.own; ⟨_, o.frz fz⟩⟩
/-- S with another address at i -/
def put (S : Nat ⊕ Nat → Option Addr) (i : Nat ⊕ Nat) (o : Option Addr) : Nat ⊕ Nat → Option Addr := fun j => if j = i then o else S j
theorem put_some {i j : Nat ⊕ Nat} {o : Option Addr} {a : Addr} (h : put S i o j = some a) : (j = i ∧ o = some a) ∨ (j ≠ i ∧ S j = some a) := by
  unfold put at h
  split at h
  · exact .inl ⟨by assumption, h⟩
  · exact .inr ⟨by assumption, h⟩
/-- a value that is not held alone is stored at i -/
theorem OwnOk.setS (o : OwnOk G H0 N0 S σ H ρ) {i : Nat} {d : D} {v : V} (hl : ρ.length = σ.length) (r : Rep G (Out N0 H0 S) H d v) : OwnOk G H0 N0 (put S (.inl i) none) (σ.set i (some v)) H (ρ.set i (some (false, d))) where
  new := fun j a e => by
    rcases put_some e with ⟨_, z⟩ | ⟨_, z⟩
    · cases z
    · exact o.new j a z
  kind := fun j a e => by
    rcases put_some e with ⟨_, z⟩ | ⟨_, z⟩
    · cases z
    · exact o.kind j a z
  inj := fun j k a e1 e2 => by
    rcases put_some e1 with ⟨_, z⟩ | ⟨_, z⟩
    · cases z
    · rcases put_some e2 with ⟨_, y⟩ | ⟨_, y⟩
      · cases y
      · exact o.inj j k a z y
  shr := fun j d' e => by
    have sub : ∀ a, Out N0 H0 S a → Out N0 H0 (put S (.inl i) none) a := fun a h => ⟨h.1, fun k z => by
      rcases put_some z with ⟨_, y⟩ | ⟨_, y⟩
      · cases y
      · exact h.2 k y⟩
    by_cases q : j = i
    · subst q
      have hj : j < ρ.length := by
        have := (List.getElem?_eq_some_iff.mp e).1
        simpa using this
      rw [List.getElem?_set_self hj] at e
      cases e
      exact ⟨v, by rw [List.getElem?_set_self (by omega)], r.sub sub⟩
    · rw [List.getElem?_set_ne (Ne.symm q)] at e
      obtain ⟨u, e1, r1⟩ := o.shr j d' e
      exact ⟨u, by rw [List.getElem?_set_ne (Ne.symm q)]; exact e1, r1.sub sub⟩
  own := fun j d' e => by
    by_cases q : j = i
    · subst q
      have hj : j < ρ.length := by
        have := (List.getElem?_eq_some_iff.mp e).1
        simpa using this
      rw [List.getElem?_set_self hj] at e
      cases e
    · rw [List.getElem?_set_ne (Ne.symm q)] at e
      obtain ⟨a, e1, e2, r1⟩ := o.own j d' e
      refine ⟨a, by rw [List.getElem?_set_ne (Ne.symm q)]; exact e1, by unfold put; rw [if_neg fun z => q (Sum.inl.inj z)]; exact e2, r1.mono (fun a h _ => ⟨h.1, fun k z => ?_⟩) (Same.refl H)⟩
      rcases put_some z with ⟨_, y⟩ | ⟨_, y⟩
      · cases y
      · exact h.2 k y
  nst := fun j d' l e hl => by
    unfold put
    rw [if_neg fun z => nomatch z]
    by_cases q : j = i
    · subst q
      have hj : j < ρ.length := by
        have := (List.getElem?_eq_some_iff.mp e).1
        simpa using this
      rw [List.getElem?_set_self hj] at e
      cases e
    · rw [List.getElem?_set_ne (Ne.symm q)] at e
      exact o.nst j d' l e hl
/-- the slots behind a store of r at i, r reckoned from the slots at fz -/
def asg (fz : List Nat) (i : Nat) (r : Bool × D) (ρ : En) : En :=
  (if (if r.1 then immTop r.2 else imm r.2) then ρ else frz fz ρ).set i (some r)
theorem OwnOk.stored (o : OwnOk G H0 N0 S σ H ρ) (fz : List Nat) {i : Nat} {r : Bool × D} {v : V} (h0 : Same G H0 H) (hl : ρ.length = σ.length) (s : Same G H H1)
    (q : Rep G (Fr (Out N0 H0 (cut fz S)) H) H1 r.2 v) (f : r.1 = true → Fresh G (Fr (Out N0 H0 (cut fz S)) H) H H1 r.2 v) : ∃ S', OwnOk G H0 N0 S' (σ.set i (some v)) H1 (asg fz i r ρ) := by
  obtain ⟨b, d⟩ := r
  have o1 := o.same s
  -- what is new, or lies out
  have out : ∀ {S' : Nat ⊕ Nat → Option Addr}, (∀ j a, S' j = some a → H a ≠ none) → ∀ c, Fr (Out N0 H0 S') H c → Out N0 H0 S' c := fun hS' c hc =>
    hc.elim id fun z => ⟨.inr (h0.free z), fun j w => hS' j c w z⟩
  have hS : ∀ j a, S j = some a → H a ≠ none := fun j a e => (o.new j a e).2
  have hC : ∀ j a, cut fz S j = some a → H a ≠ none := fun j a e => hS j a (cut_some e).1
  cases b with
  | false =>
    by_cases hi : imm d = true
    · refine ⟨put S (.inl i) none, ?_⟩
      rw [show asg fz i (false, d) ρ = ρ.set i (some (false, d)) from (by unfold asg; simp [hi])]
      exact o1.setS hl (Rep.imm hi q)
    · refine ⟨put (cut fz S) (.inl i) none, ?_⟩
      rw [show asg fz i (false, d) ρ = (Fb.frz fz ρ).set i (some (false, d)) from (by unfold asg; simp [hi])]
      exact (o1.frz fz).setS (frz_len.trans hl) (q.sub (out hC))
  | true =>
    obtain ⟨a, ev, ha, nn, w⟩ := f rfl
    subst ev
    have an : ∀ {S' : Nat ⊕ Nat → Option Addr}, (∀ j a, S' j = some a → H a ≠ none) → ∀ j, S' j ≠ some a := fun hS' j z => hS' j a z ha
    -- what stood ahead is apart from a
    have old : ∀ {d : D} {v : V} {N : Addr → Prop}, Rep G N H d v → Rep G (fun b => N b ∧ b ≠ a) H1 d v := fun r => r.mono (fun b z y => ⟨z, fun e => y (e ▸ ha)⟩) (Le.of s)
    have oldO : ∀ {d : D} {b : Addr} {N : Addr → Prop}, OwnT G N H b d → OwnT G (fun c => N c ∧ c ≠ a) H1 b d := fun r => r.mono (fun b z y => ⟨z, fun e => y (e ▸ ha)⟩) s
    -- setO wants it of what o1 says: rebuild from o
    have go : ∀ {S' : Nat ⊕ Nat → Option Addr} {ρ' : En}, OwnOk G H0 N0 S' σ H ρ' → ρ'.length = σ.length → (∀ j a, S' j = some a → H a ≠ none) → OwnT G (fun b => Out N0 H0 S' b ∧ b ≠ a) H1 a d → OwnOk G H0 N0 (put S' (.inl i) (some a)) (σ.set i (some (.ref a))) H1 (ρ'.set i (some (true, d))) := fun {S' ρ'} o' hl' hS' w' => by
      have sub : ∀ b, (Out N0 H0 S' b ∧ b ≠ a) → Out N0 H0 (put S' (.inl i) (some a)) b := fun b h => ⟨h.1.1, fun k z => by
        rcases put_some z with ⟨_, y⟩ | ⟨_, y⟩
        · cases y; exact h.2 rfl
        · exact h.1.2 k y⟩
      refine ⟨fun j b e => ?_, fun j b e => ?_, fun j k b e1 e2 => ?_, fun j d' e => ?_, fun j d' e => ?_, fun j d' l e hl => ?_⟩
      · rcases put_some e with ⟨_, z⟩ | ⟨_, z⟩
        · cases z; exact ⟨h0.free ha, w'.some⟩
        · exact ⟨(o'.new j b z).1, fun y => (o'.new j b z).2 (s.free y)⟩
      · rcases put_some e with ⟨_, z⟩ | ⟨_, z⟩
        · cases z; exact w'.kind
        · obtain ⟨u, h, k⟩ := o'.kind j b z
          exact ⟨u, s.at h (fun ps z => by subst z; exact k), k⟩
      · rcases put_some e1 with ⟨x, z⟩ | ⟨x, z⟩
        · rcases put_some e2 with ⟨y, w⟩ | ⟨y, w⟩
          · exact x.trans y.symm
          · cases z; exact absurd w (an hS' k)
        · rcases put_some e2 with ⟨y, w⟩ | ⟨y, w⟩
          · cases w; exact absurd z (an hS' j)
          · exact o'.inj j k b z w
      · by_cases q : j = i
        · subst q
          have hj : j < ρ'.length := by
            have := (List.getElem?_eq_some_iff.mp e).1
            simpa using this
          rw [List.getElem?_set_self hj] at e
          cases e
        · rw [List.getElem?_set_ne (Ne.symm q)] at e
          obtain ⟨u, e1, r1⟩ := o'.shr j d' e
          exact ⟨u, by rw [List.getElem?_set_ne (Ne.symm q)]; exact e1, (old r1).sub sub⟩
      · by_cases q : j = i
        · subst q
          have hj : j < ρ'.length := by
            have := (List.getElem?_eq_some_iff.mp e).1
            simpa using this
          rw [List.getElem?_set_self hj] at e
          cases e
          exact ⟨a, by rw [List.getElem?_set_self (by omega)], by unfold put; rw [if_pos rfl], w'.mono (fun b z _ => sub b z) (Same.refl H1)⟩
        · rw [List.getElem?_set_ne (Ne.symm q)] at e
          obtain ⟨b, e1, e2, r1⟩ := o'.own j d' e
          exact ⟨b, by rw [List.getElem?_set_ne (Ne.symm q)]; exact e1, by unfold put; rw [if_neg fun z => q (Sum.inl.inj z)]; exact e2, (oldO r1).mono (fun b z _ => sub b z) (Same.refl H1)⟩
      · unfold put
        rw [if_neg fun z => nomatch z]
        by_cases q : j = i
        · subst q
          have hj : j < ρ'.length := by
            have := (List.getElem?_eq_some_iff.mp e).1
            simpa using this
          rw [List.getElem?_set_self hj] at e
          cases e
          rw [nn] at hl; cases hl
        · rw [List.getElem?_set_ne (Ne.symm q)] at e
          exact o'.nst j d' l e hl
    by_cases hi : immTop d = true
    · refine ⟨put S (.inl i) (some a), ?_⟩
      rw [show asg fz i (true, d) ρ = ρ.set i (some (true, d)) from (by unfold asg; simp [hi])]
      exact go o hl hS (OwnT.imm hi w)
    · refine ⟨put (cut fz S) (.inl i) (some a), ?_⟩
      rw [show asg fz i (true, d) ρ = (Fb.frz fz ρ).set i (some (true, d)) from (by unfold asg; simp [hi])]
      exact go (o.frz fz) (frz_len.trans hl) hC (w.mono (fun b z _ => ⟨out hC b z.1, z.2⟩) (Same.refl H1))
theorem asg_len {fz : List Nat} {i : Nat} {r : Bool × D} : (asg fz i r ρ).length = ρ.length := by
  unfold asg
  rw [List.length_set]
  by_cases h : (if r.1 then immTop r.2 else imm r.2) = true
  · rw [if_pos h]
  · rw [if_neg h, frz_len]
end
end Fb
end

section
set_option Elab.async false
set_option linter.all false
set_option maxRecDepth 100000
set_option maxHeartbeats 4000000
/-! The judgement of statements; blocks, stores, tests, loops. -/
namespace Fb
open PySem PySem.Spec PyProof.Rows L2

/-- how a statement ends -/
inductive Fl where
  | nx | bk | ct | rt (r : Bool × D)
abbrev WS := W (Ex × En) (Fl × En)
/-- an expression's program within a statement's: what is raised is raised at these slots -/
def up {α : Type} (ρ : En) (m : W Ex α) : W (Ex × En) α := W.lift (fun x => (x, ρ)) m

def PoS (G : Wd) (H0 : Hp) (N0 : Addr → Prop) (D' : Ends) : Fl × En → Prop
  | (.nx, ρ) => ∀ σ H, SRel G H0 N0 σ H ρ → D'.nx σ H
  | (.bk, ρ) => ∀ σ H, SRel G H0 N0 σ H ρ → D'.bk σ H
  | (.ct, ρ) => ∀ σ H, SRel G H0 N0 σ H ρ → D'.ct σ H
  | (.rt r, ρ) => ∀ v H, Same G H0 H → Rep G (Fr N0 H0) H r.2 v → (r.1 = true → Fresh G (Fr N0 H0) H0 H r.2 v) → (∃ σ, SRel G H0 N0 σ H ρ) → D'.rt v H
def PoXS (G : Wd) (H0 : Hp) (N0 : Addr → Prop) (Wx : WX) (p : Ex × En) : Prop := ∀ σ c dd H, SRel G H0 N0 σ H p.2 → XRep G (Fr N0 H0) H p.1 c dd → Wx c dd σ H
def tS (G : Wd) (Wx : WX) (m : En → WS) : TS := fun D' σ H => ∃ H0 N0 ρ, SRel G H0 N0 σ H ρ ∧ m ρ (PoS G H0 N0 D') (PoXS G H0 N0 Wx)
structure DS (G : Wd) (X : Cx) (Wx : WX) (st : Stmt) (m : En → WS) : Prop where
  ps : PS X st (tS G Wx m)
  mono : ∀ ρ, W.Mono (m ρ)
structure DSs (G : Wd) (X : Cx) (Wx : WX) (st : List Stmt) (m : En → WS) : Prop where
  ps : PSs X st (tS G Wx m)
  mono : ∀ ρ, W.Mono (m ρ)

section
variable {G : Wd} {X : Cx} {Wx : WX}
theorem DS.imp {st : Stmt} {m : En → WS} {t : TS} (mono : ∀ ρ, W.Mono (m ρ)) (h : PS X st t) (i : ∀ H0 N0 ρ σ H D', SRel G H0 N0 σ H ρ → m ρ (PoS G H0 N0 D') (PoXS G H0 N0 Wx) → t D' σ H) : DS G X Wx st m :=
  ⟨⟨fun pins s σ H D' I ⟨H0, N0, ρ, r, q⟩ => h.run pins s σ H D' I (i H0 N0 ρ σ H D' r q)⟩, mono⟩
theorem DSs.imp {st : List Stmt} {m : En → WS} {t : TS} (mono : ∀ ρ, W.Mono (m ρ)) (h : PSs X st t) (i : ∀ H0 N0 ρ σ H D', SRel G H0 N0 σ H ρ → m ρ (PoS G H0 N0 D') (PoXS G H0 N0 Wx) → t D' σ H) : DSs G X Wx st m :=
  ⟨⟨fun pins s σ H D' I ⟨H0, N0, ρ, r, q⟩ => h.run pins s σ H D' I (i H0 N0 ρ σ H D' r q)⟩, mono⟩
theorem Mono.up {α : Type} {m : W Ex α} {ρ : En} (h : W.Mono m) : W.Mono (up ρ m) := W.Mono.lift h

/-! ### expressions within statements -/
section
variable {H0 : Hp} {N0 : Addr → Prop} {σ : Fb.St} {H : Hp} {ρ : En}
theorem Fr.out {S : Nat ⊕ Nat → Option Addr} {a : Addr} (h0 : Same1 G H0 H) (h : Fr (Out N0 H0 S) H a) : Fr N0 H0 a := h.elim (fun z => z.1) fun z => .inr (h0.free z)
/-- the value of e, seen with fz, its holder unknown as yet -/
theorem DE.inS {e : Expr} {m : Ro → W Ex D} (h : DE G X Wx e m) (x : SRel G H0 N0 σ H ρ) {Q : VK} {P : D → Prop} (q : up ρ (m (ro ρ)) P (PoXS G H0 N0 Wx))
    (hP : ∀ d v H1, P d → SRel G H0 N0 σ H1 ρ → Same G H H1 → Rep G (Fr N0 H0) H1 d v → Q v H1) : tE G Wx m σ H Q := by
  refine h.go x.ro q (fun y z => ?_) fun d v H1 z s r _ => hP d v H1 z (x.step s) s (r.sub fun _ y => y.elim id fun w => .inr (x.same.free w))
  intro c dd H' s r
  exact z σ c dd H' (x.step s) (r.mono fun _ y => y.elim id fun w => .inr (x.same.free w))
theorem DT.inS {e : Expr} {m : Ro → W Ex Bool} (h : DT G X Wx e m) (x : SRel G H0 N0 σ H ρ) {Q : Bool → Hp → Prop} {P : Bool → Prop} (q : up ρ (m (ro ρ)) P (PoXS G H0 N0 Wx))
    (hP : ∀ b H1, P b → SRel G H0 N0 σ H1 ρ → Same G H H1 → Q b H1) : tT G Wx m σ H Q := by
  refine h.go x.ro q (fun y z => ?_) fun b H1 z s _ => hP b H1 z (x.step s) s
  intro c dd H' s r
  exact z σ c dd H' (x.step s) (r.mono fun _ y => y.elim id fun w => .inr (x.same.free w))
/-- .. to be stored, returned -/
theorem DR.inS {e : Expr} {m : Ro → W Ex (Bool × D)} (h : DR G X Wx e m) {S : Nat ⊕ Nat → Option Addr} (h0 : Same1 G H0 H) (hl : ρ.length = σ.length) (o : OwnOk G H0 N0 S σ H ρ) (fz : List Nat) {Q : VK} {P : Bool × D → Prop} (q : up ρ (m (see fz ρ)) P (PoXS G H0 N0 Wx))
    (hP : ∀ r v H1, P r → Same G H H1 → Rep G (Fr (Out N0 H0 (cut fz S)) H) H1 r.2 v → (r.1 = true → Fresh G (Fr (Out N0 H0 (cut fz S)) H) H H1 r.2 v) → Q v H1) : tR G Wx m σ H Q := by
  refine ⟨_, _, o.sees h0.tb fz, (h.mono _).run (fun r z v H1 s1 r1 f1 => hP r v H1 z s1 r1 f1) (fun x z => ?_) q⟩
  intro c dd H' s r
  exact z σ c dd H' ⟨h0.trans s, hl, _, o.same s⟩ (r.mono fun _ y => y.out h0)
end

/-! ### blocks -/
def mSkip : En → WS := fun ρ => W.ret (.nx, ρ)
def andThen (n : En → WS) (p : Fl × En) : WS := match p.1 with
  | .nx => n p.2
  | _ => W.ret p
def mSeq (m n : En → WS) : En → WS := fun ρ => W.bind (m ρ) (andThen n)
theorem andThen_mono {n : En → WS} (h : ∀ ρ, W.Mono (n ρ)) (p : Fl × En) : W.Mono (andThen n p) := by
  obtain ⟨f, ρ⟩ := p
  cases f with
  | nx => exact h ρ
  | _ => exact W.Mono.ret
theorem dss_nil : DSs G X Wx [] mSkip := DSs.imp (fun _ => W.Mono.ret) pss_nil fun H0 N0 ρ σ H D' r q => q σ H r
theorem dss_cons {st : Stmt} {sts : List Stmt} {m n : En → WS} (h : DS G X Wx st m) (hs : DSs G X Wx sts n) : DSs G X Wx (st :: sts) (mSeq m n) := by
  refine DSs.imp (fun ρ => (h.mono ρ).bind fun p => andThen_mono hs.mono p) (pss_cons h.ps hs.ps) fun H0 N0 ρ σ H D' r q => ?_
  refine ⟨H0, N0, ρ, r, (h.mono ρ).run (fun p z => ?_) (fun _ z => z) q⟩
  obtain ⟨f, ρ'⟩ := p
  cases f with
  | nx => exact fun σ' H' r' => ⟨H0, N0, ρ', r', z⟩
  | bk => exact z
  | ct => exact z
  | rt r => exact z
theorem dss_one {st : Stmt} {m : En → WS} (h : DS G X Wx st m) : DSs G X Wx [st] m := ⟨pss_one h.ps, h.mono⟩

/-! ### small statements -/
/-- x = e -/
def mSet (fz : List Nat) (i : Nat) (m : Ro → W Ex (Bool × D)) : En → WS := fun ρ => W.bind (up ρ (m (see fz ρ))) fun r => W.ret (.nx, asg fz i r ρ)
theorem ds_set {i : Nat} {x : Str} {e : Expr} {m : Ro → W Ex (Bool × D)} {pos pos' : Pos} (fz : List Nat) (h : DR G X Wx e m) (hN : X.N.Nodup) (hi : X.N[i]? = some x) (hx : Loc X.env.scope x) (hs : swapsWith e (some (.Name x pos')) pos.line X.env = pure false := by rfl)
    (hf : X.fn x = true ∨ X.env.scope.names.lookup x = some .local := by first | exact .inl rfl | exact .inr rfl | assumption) : DS G X Wx (.Assign [.Name x pos'] e pos) (mSet fz i m) := by
  refine DS.imp (fun ρ => (Mono.up (h.mono _)).bind fun _ => W.Mono.ret) (ps_set hN hi hx h.pe hs hf) fun H0 N0 ρ σ H D' r q => ?_
  obtain ⟨S, o⟩ := r.own
  refine h.inS r.same r.len o fz q fun p v H1 z s1 r1 f1 => z _ _ ⟨r.same.trans s1, ?_, o.stored fz r.same r.len s1 r1 f1⟩
  rw [asg_len, List.length_set]
  exact r.len
/-- return e -/
def mRet (m : Ro → W Ex (Bool × D)) : En → WS := fun ρ => W.bind (up ρ (m (ro ρ))) fun r => W.ret (.rt r, ρ)
theorem ds_ret {e : Expr} {m : Ro → W Ex (Bool × D)} {pos : Pos} (h : DR G X Wx e m) : DS G X Wx (.Return (some e) pos) (mRet m) := by
  refine DS.imp (fun ρ => (Mono.up (h.mono _)).bind fun _ => W.Mono.ret) (ps_ret h.pe) fun H0 N0 ρ σ H D' r q => ?_
  have sub : ∀ a, Fr (Fr N0 H0) H a → Fr N0 H0 a := fun a y => y.elim id fun w => .inr (r.same.free w)
  refine ⟨_, _, r.ro, (h.mono _).run (fun p z v H1 s1 r1 f1 => ?_) (fun x z => ?_) q⟩
  · refine z v H1 (r.same.trans s1) (r1.sub sub) (fun w => ?_) ⟨_, r.step s1⟩
    obtain ⟨a, e1, e2, en, e3⟩ := f1 w
    exact ⟨a, e1, r.same.free e2, en, e3.mono (fun b y _ => ⟨sub b y.1, y.2⟩) (Same.refl H1)⟩
  · intro c dd H' s1 r1
    exact z σ c dd H' (r.step s1) (r1.mono sub)
/-- if -/
def mIf (c : Ro → W Ex Bool) (m n : En → WS) : En → WS := fun ρ => W.bind (up ρ (c (ro ρ))) fun b => if b = true then m ρ else n ρ
theorem ite_mono {c : Prop} [Decidable c] {ε α : Type} {m n : W ε α} (h1 : W.Mono m) (h2 : W.Mono n) : W.Mono (if c then m else n) := by
  split
  · exact h1
  · exact h2
theorem ds_if {c : Expr} {a b : List Stmt} {mc : Ro → W Ex Bool} {m n : En → WS} {pos : Pos} (hc : DT G X Wx c mc) (ha : DSs G X Wx a m) (hb : DSs G X Wx b n) : DS G X Wx (.If c a b pos) (mIf mc m n) := by
  refine DS.imp (fun ρ => (Mono.up (hc.mono _)).bind fun b => ite_mono (ha.mono ρ) (hb.mono ρ)) (ps_if hc.pt ha.ps hb.ps) fun H0 N0 ρ σ H D' r q => ?_
  refine hc.inS r q fun t H1 z r1 _ => ?_
  cases t with
  | true => exact ⟨H0, N0, ρ, r1, z⟩
  | false => exact ⟨H0, N0, ρ, r1, z⟩

/-! ### while -/
end
end Fb
end

section
set_option Elab.async false
set_option linter.all false
set_option maxRecDepth 100000
set_option maxHeartbeats 4000000
/-! Defs of a row as programs over data; their calls. -/
namespace Fb
open PySem PySem.Spec PyProof.Rows L2

abbrev Rt := W Ex (Bool × D)
/-- the def at f, called with values that stand for ds, does what sem says of ds -/
structure FnD (P : Program) (w : World) (G : Wd) (base : Heap) (k : Nat) (f : Addr) (fd : FuncData) (ps : List Str) (sem : List D → Rt) : Prop where
  run : ∀ (A : Around) (outer : List Env) (s : Shared) (H : Hp) (args : Args) (us : List Value) (vs : List V) (ds : List D) (N : Addr → Prop) (Q : VK) (E : XK), Room k A → A.guards = some [] → Env0 P w G.K G.mg base A outer s H → TabsG G H →
    BindsTo s fd args (ps.zip us) → Vals vs us → Reps G N H ds vs → vs.length = ps.length →
    sem ds (PoR G N H Q) (fun x => ∀ c dd H', Same G H H' → XRep G (Fr N H) H' x c dd → E c dd H') → codeAny (model P w) A (.call (.ref f) args) (CR (CX P w) outer P w H s Q E) s
  mono : ∀ ds, W.Mono (sem ds)
theorem FnD.up {P : Program} {w : World} {G : Wd} {base : Heap} {j k : Nat} {f : Addr} {fd : FuncData} {ps : List Str} {sem : List D → Rt} (F : FnD P w G base j f fd ps sem) (h : j ≤ k) : FnD P w G base k f fd ps sem :=
  ⟨fun A outer s H args us vs ds N Q E hr => F.run A outer s H args us vs ds N Q E (hr.mono h), F.mono⟩

/-- where a body runs -/
structure Cz (P : Program) (w : World) (G : Wd) (base : Heap) (k : Nat) (X : Cx) (Wx : WX) : Prop where
  P : X.prog = P
  w : X.w = w
  K : X.K = G.K
  mg : X.mg = G.mg
  base : X.base = base
  room : Room k X.A
  gd : X.A.guards = some []
  tk : Takes X Wx

/-! ### a body -/
def initEn (n : Nat) (ds : List D) : En := ds.map (fun d => some (false, d)) ++ List.replicate (n - ds.length) none
def runBody (n : Nat) (b : En → WS) : List D → Rt := fun ds Q E => b (initEn n ds) (fun p => match p.1 with
  | .nx => Q (false, .non)
  | .rt r => Q r
  | _ => False) (fun p => E p.1)
theorem runBody_mono {n : Nat} {b : En → WS} (h : ∀ ρ, W.Mono (b ρ)) (ds : List D) : W.Mono (runBody n b ds) := ⟨fun hq he q => (h _).run (fun p z => by
  obtain ⟨f, ρ⟩ := p
  cases f with
  | nx => exact hq _ z
  | rt r => exact hq _ z
  | bk => exact z
  | ct => exact z) (fun p z => he _ z) q⟩
theorem initEn_at {n i : Nat} {ds : List D} {b : Bool} {d : D} (h : (initEn n ds)[i]? = some (some (b, d))) : b = false ∧ ds[i]? = some d := by
  unfold initEn at h
  rw [List.getElem?_append] at h
  split at h
  · rw [List.getElem?_map] at h
    rcases e : ds[i]? with _ | d'
    · rw [e] at h; cases h
    · rw [e] at h; cases h; exact ⟨rfl, rfl⟩
  · rw [List.getElem?_replicate] at h
    split at h <;> cases h
theorem start_at {N : List Str} {vs : List V} {i : Nat} {v : V} (h : vs[i]? = some v) : (L2.start N vs)[i]? = some (some v) := by
  unfold L2.start
  rw [List.getElem?_append_left (by rw [List.length_map]; exact (List.getElem?_eq_some_iff.mp h).1), List.getElem?_map, h]
  rfl
theorem SRel.start {G : Wd} {N : Addr → Prop} {H : Hp} {ds : List D} {vs : List V} {Ns : List Str} (tb : TabsG G H) (r : Reps G N H ds vs) (hl : vs.length ≤ Ns.length) : SRel G H N (L2.start Ns vs) H (initEn Ns.length ds) := by
  refine ⟨⟨Same.refl H, tb⟩, ?_, fun _ => none, ⟨fun _ _ e => (nomatch e), fun _ _ e => (nomatch e), fun _ _ _ e => (nomatch e), fun i d e => ?_, fun i d e => ?_, fun i d l e => nomatch (initEn_at e).1⟩⟩
  · unfold initEn L2.start
    rw [List.length_append, List.length_append, List.length_map, List.length_map, List.length_replicate, List.length_replicate, r.length]
  · obtain ⟨_, e⟩ := initEn_at e
    obtain ⟨v, e1, r1⟩ := Reps.get' r e
    exact ⟨v, start_at e1, r1.sub fun a z => ⟨.inl z, fun _ y => nomatch y⟩⟩
  · exact nomatch (initEn_at e).1
/-- the context of a def's body -/
abbrev cxD (P : Program) (w : World) (G : Wd) (base : Heap) (Ns : List Str) (qual : Str) (sc : Scope) (f : Addr) (cdv : Value) (A : Around) (outer : List Env) (s : Shared) (H : Hp) (E : XK) : Cx :=
  cxOf (L2.CX P w) P w G.K G.mg base Ns qual sc f cdv A outer s H E
abbrev wxD (E : XK) : WX := fun c d _ H => E c d H
/-- THE RULE: a def by its body -/
theorem fnd_of {P : Program} {w : World} {G : Wd} {base : Heap} {k : Nat} {f : Addr} {x qual : Str} {st : Stmt} {dV kV doc pm cdv ct oc : Value} {an od : Option Addr} {osl : Array (Option Value)} {Ns ps : List Str} {b : En → WS}
    (lk : G.K.lookup f = some ⟨oc, od, .func (PySem.W.fnOf x qual (defArgs st) (defBody st) (defScope st) dV kV doc pm an cdv ct), osl⟩) (hcd : PySem.W.codeIn G.K cdv qual = true) (S : FnScope Ns ps (defScope st))
    (hm : ∀ ρ, W.Mono (b ρ))
    (body : ∀ (A : Around) (outer : List Env) (s : Shared) (H : Hp) (E : XK), Cz P w G base k (cxD P w G base Ns qual (defScope st) f cdv A outer s H E) (wxD E) →
      DSs G (cxD P w G base Ns qual (defScope st) f cdv A outer s H E) (wxD E) (defBody st) b) :
    FnD P w G base (k + 1) f (PySem.W.fnOf x qual (defArgs st) (defBody st) (defScope st) dV kV doc pm an cdv ct) ps (runBody Ns.length b) := by
  refine ⟨fun A outer s H args us vs ds N Q E hr hg e0 tb hb rv rd hl q => ?_, runBody_mono hm⟩
  refine LamX.run_ofS lk hcd S hr e0 hb rv hl fun hr' => ?_
  have z : Cz P w G base k (cxD P w G base Ns qual (defScope st) f cdv A outer s H E) (wxD E) := ⟨rfl, rfl, rfl, rfl, rfl, hr', hg, takes_of rfl rfl rfl rfl⟩
  have d := body A outer s H E z
  refine ⟨_, d.ps, H, N, initEn Ns.length ds, .start tb rd ?_, (d.mono _).run (fun p y => ?_) (fun p y => ?_) q⟩
  · have := congrArg List.length S.pre
    rw [List.length_take] at this
    omega
  · obtain ⟨fl, ρ⟩ := p
    cases fl with
    | nx => exact fun σ' H' r' => y .non H' r'.same rfl fun z => nomatch z
    | rt r => exact fun v H' s' r' f' _ => y v H' s' r' f'
    | bk => exact y.elim
    | ct => exact y.elim
  · exact fun σ c dd H' r' x' => y c dd H' r'.same x'

/-! ### calls -/
section
variable {P : Program} {w : World} {G : Wd} {base : Heap} {k j : Nat} {X : Cx} {Wx : WX} {f : Addr} {fd : FuncData} {ps : List Str} {sem : List D → Rt}
/-- the callee runs -/
theorem run_fnd {pins : List (Addr × Obj)} {σ : Fb.St} {H : Hp} {s : Shared} {Q : VK} {us : List Value} {vs : List V} {ds : List D} {N : Addr → Prop} {dvs : List V} {dus : List Value} {dds : List D} (Z : Cz P w G base k X Wx) (F : FnD P w G base j f fd ps sem) (hj : j ≤ k) (hb : Binds X.K fd ps dus) (hd : Vals dvs dus)
    (I : Inv X pins σ H s) (tb : TabsG G H) (r : Vals vs us) (rd : Reps G N H (ds ++ dds) (vs ++ dvs)) (hl : (ds ++ dds).length = ps.length) (h : sem (ds ++ dds) (PoR G N H Q) (PoX G N Wx H σ)) : wpAny (model X.prog X.w) X.A (call (.ref f) us) (EP X pins σ Q) X.xe s := by
  obtain ⟨rfl, rfl, hK, hmg, rfl, hr, hg, tk⟩ := Z
  have r2 : Vals (vs ++ dvs) (us ++ dus) := r.append hd
  have lv : (vs ++ dvs).length = ps.length := rd.length.trans hl
  have lu : (us ++ dus).length = ps.length := r2.length.symm.trans lv
  have e0 : Env0 X.prog X.w G.K G.mg X.base X.A X.stack s H := by rw [← hK, ← hmg]; exact I.env0
  refine wpAny_call (codeAny_mono (F.run X.A X.stack s H ⟨us, []⟩ (us ++ dus) (vs ++ dvs) (ds ++ dds) N Q (fun c dd H' => Wx c dd σ H') (hr.mono hj) hg e0 tb (hb s us I.kIn lu) r2 rd lv ((F.mono _).run (fun _ z => z) (fun x z => z) h)) fun r s' hq => ?_)
  cases r with
  | error e => exact tk e s' (XE.of_call (E := fun c dd H' => Wx c dd σ H') I (fun cls d H' h => h) hq)
  | ok fl =>
    cases fl with
    | ret u => exact I.after hq
    | next => exact False.elim hq
    | brk => exact False.elim hq
    | cont => exact False.elim hq
def mCall (n : Nat) (sem : List D → Rt) (dds : List D) (m : Ro → W Ex (List D)) : Ro → W Ex (Bool × D) := fun ρ => W.bind (m ρ) fun ds => if (ds ++ dds).length = n then sem (ds ++ dds) else W.fail
theorem PoR.step {N : Addr → Prop} {H H1 : Hp} {Q : VK} {r : Bool × D} (h : PoR G N H Q r) (s : Same G H H1) : PoR G (Fr N H) H1 Q r := fun v H' s' r' f' =>
  h v H' (s.trans s') (r'.sub fun _ z => z.fr s) fun w => by
    obtain ⟨a, e1, e2, en, e3⟩ := f' w
    exact ⟨a, e1, s.free e2, en, e3.mono (fun b z _ => ⟨z.1.fr s, z.2⟩) (Same.refl H')⟩
theorem PoX.step2 {N : Addr → Prop} {H H1 : Hp} {σ : Fb.St} {x : Ex} (h : PoX G N Wx H σ x) (s : Same G H H1) : PoX G (Fr N H) Wx H1 σ x := fun c dd H' s' r => h c dd H' (s.trans s') (r.mono fun _ z => z.fr s)
theorem mCall_mono {es : List Expr} {m : Ro → W Ex (List D)} {dds : List D} (F : FnD P w G base j f fd ps sem) (ha : DA G X Wx es m) (ρ : Ro) : W.Mono (mCall ps.length sem dds m ρ) :=
  (ha.mono ρ).bind fun ds => ite_mono (F.mono _) W.Mono.fail
/-- f(e, ..) -/
theorem dr_call {x : Str} {e : Expr} {es : List Expr} {p pos : Pos} {m : Ro → W Ex (List D)} {dvs : List V} {dus : List Value} {dds : List D} (Z : Cz P w G base k X Wx) (F : FnD P w G base j f fd ps sem) (hj : j ≤ k) (hm : G.mg x = some (.ref f)) (hk : PySem.W.keepIn G.K (.ref f) = true) (hb : Binds G.K fd ps dus)
    (hd : Vals dvs dus) (hr : ∀ N H, Reps G N H dds dvs) (hg : Gl X x) (ha : DA G X Wx (e :: es) m) (hdb : (x == ("__debug__" : Str)) = false := by decide) (he : starEach (e :: es) X.env = (false, eval e X.env) :: starEach es X.env := by rfl) (hpl : (backTo pos (starEach es X.env)).any (·.1) = false := by rfl) :
    DR G X Wx (.Call (.Name x p) (e :: es) [] pos) (mCall ps.length sem dds m) := by
  refine ⟨⟨fun pins s σ H Q I ⟨N, ρ, rr, q⟩ => ?_⟩, mCall_mono F ha⟩
  refine wpAny_Call_Name_kw (ld_glob I hg (Z.mg ▸ hm) ?_ hdb)
  have go := ha.pa.run pos pins s σ H (fun vs H1 => ∃ ds, Reps G (Fr N H) H1 ds vs ∧ (ds ++ dds).length = ps.length ∧ Same G H H1 ∧ sem (ds ++ dds) (PoR G N H Q) (PoX G N Wx H σ)) I ⟨N, ρ, rr, (ha.mono ρ).run (fun ds z vs H1 s1 r1 => by
    by_cases hl : (ds ++ dds).length = ps.length
    · exact ⟨ds, r1, hl, s1, by simpa only [if_pos hl] using z⟩
    · have z' : (W.fail : Rt) (PoR G N H Q) (PoX G N Wx H σ) := by simpa only [if_neg hl] using z
      exact z'.elim) (fun x z => z) q⟩
  refine PySem.W.callWith_K (h₀ := X.base) I.ok.mod.kin (Z.K ▸ hk) (thn go fun us s1 ⟨vs, H1, I1, r, q1⟩ => ⟨I1.kIn, ?_⟩) he hpl
  obtain ⟨ds, r1, hl, s2, z⟩ := q1
  exact run_fnd Z F hj (Z.K ▸ hb) hd I1 (s2.tab rr.tab) r (r1.app (hr _ _)) hl ((F.mono _).run (fun _ y => y.step s2) (fun _ y => y.step2 s2) z)
end
end Fb
end

section
set_option Elab.async false
set_option linter.all false
set_option maxRecDepth 100000
set_option maxHeartbeats 4000000
/-! Operators over data. -/
namespace Fb
open PySem PySem.Spec PyProof.Rows L2

/-! ### data as the library's data -/
mutual
def D.py : D → Option PyData
  | .non => some .none
  | .bl b => some (.bool b)
  | .int i => some (.int i)
  | .str x => some (.str x)
  | .tup xs => (D.pys xs).map .tuple
  | .lst xs => (D.pys xs).map .list
  | .dic _ => none
  | .ins _ _ => none
  | .obj _ _ _ => none
  | .stk _ _ _ _ => none
  | .box _ => none
  | .ty _ => none
  | .cls _ => none
  | .exn _ _ _ => none
  | .erv _ _ _ _ => none
  | .cel _ _ => none
  | .raw _ => none
  | .scr _ => none
  | .clo _ _ => none
def D.pys : List D → Option (List PyData)
  | [] => some []
  | x :: xs => match D.py x, D.pys xs with
    | some p, some ps => some (p :: ps)
    | _, _ => none
end
section
variable {G : Wd} {N : Addr → Prop} {H : Hp}
mutual
theorem Rep.dp : ∀ {d : D} {v : V} {p : PyData}, Rep G N H d v → d.py = some p → Dp G.K H v p
  | .non, _, _, h, e => by simp only [D.py, Option.some.injEq] at e; subst e; rw [show _ = V.non from h]; exact .non
  | .bl b, _, _, h, e => by simp only [D.py, Option.some.injEq] at e; subst e; rw [show _ = V.bl b from h]; exact .bl b
  | .int i, _, _, h, e => by simp only [D.py, Option.some.injEq] at e; subst e; rw [show _ = V.int i from h]; exact .int i
  | .str x, _, _, h, e => by simp only [D.py, Option.some.injEq] at e; subst e; rw [show _ = V.str x from h]; exact .str x
  | .tup ds, _, _, ⟨a, vs, ev, q, r⟩, e => by
    simp only [D.py, Option.map_eq_some_iff] at e
    obtain ⟨ps, e1, e2⟩ := e
    subst e2 ev
    exact .tup q.sq (Reps.dp r e1)
  | .lst ds, _, _, ⟨a, vs, ev, n, q, r⟩, e => by
    simp only [D.py, Option.map_eq_some_iff] at e
    obtain ⟨ps, e1, e2⟩ := e
    subst e2 ev
    exact .lst (.of q) (Reps.dp r e1)
  | .dic _, _, _, _, e => by simp [D.py] at e
  | .ins _ _, _, _, _, e => by simp [D.py] at e
  | .obj _ _ _, _, _, _, e => by simp [D.py] at e
  | .stk _ _ _ _, _, _, _, e => by simp [D.py] at e
  | .box _, _, _, _, e => by simp [D.py] at e
  | .ty _, _, _, _, e => by simp [D.py] at e
  | .cls _, _, _, _, e => by simp [D.py] at e
  | .exn _ _ _, _, _, _, e => by simp [D.py] at e
  | .erv _ _ _ _, _, _, _, e => by simp [D.py] at e
  | .cel _ _, _, _, _, e => by simp [D.py] at e
  | .raw _, _, _, _, e => by simp [D.py] at e
  | .scr _, _, _, _, e => by simp [D.py] at e
  | .clo _ _, _, _, _, e => by simp [D.py] at e
theorem Reps.dp : ∀ {ds : List D} {vs : List V} {ps : List PyData}, Reps G N H ds vs → D.pys ds = some ps → DpAll G.K H vs ps
  | [], _, _, h, e => by simp only [D.pys, Option.some.injEq] at e; subst e; rw [show _ = [] from h]; exact .nil
  | d :: ds, _, _, ⟨w, ws, ev, r, rs⟩, e => by
    subst ev
    rcases e1 : D.py d with _ | p
    · simp [D.pys, e1] at e
    · rcases e2 : D.pys ds with _ | qs
      · simp [D.pys, e1, e2] at e
      · simp only [D.pys, e1, e2, Option.some.injEq] at e
        subst e
        exact .cons (Rep.dp r e1) (Reps.dp rs e2)
end
end

/-! ### binary operators with a fresh answer -/
def DOpR (G : Wd) (X : Cx) (r : R2) (g : D → D → Rt) : Prop :=
  (∀ a b, W.Mono (g a b)) ∧ ∀ N H a b x y Q, Rep G N H a x → Rep G N H b y → g a b (PoR G N H Q) (fun _ => False) → r x y H Q
def mOpR (g : D → D → Rt) (m n : Ro → W Ex D) : Ro → W Ex (Bool × D) := fun ρ => W.bind (m ρ) fun a => W.bind (n ρ) fun b => W.calm (g a b)
section
variable {G : Wd} {X : Cx} {Wx : WX}
theorem opR_two {a b : Expr} {m n : Ro → W Ex D} {r : R2} {g : D → D → Rt} (hg : DOpR G X r g) (ha : DE G X Wx a m) (hb : DE G X Wx b n) {N : Addr → Prop} {ρ : Ro} {σ : Fb.St} {H : Hp} {Q : VK} (rr : ERel G N H σ ρ)
    (q : mOpR g m n ρ (PoR G N H Q) (PoX G N Wx H σ)) : tOp r (tE G Wx m) (tE G Wx n) σ H Q := by
  refine ha.go rr q (fun x z => z) fun d v H1 z s1 r1 rr1 => ?_
  refine hb.go rr1 z (fun x z => z.step s1) fun e u H2 z s2 r2 rr2 => ?_
  refine hg.2 (Fr N H) H2 d e v u Q (r1.same s2) (r2.sub fun _ z => z.step s1) ?_
  exact (hg.1 d e).run (fun d z => z.step (s1.trans s2)) (fun _ z => z) z
theorem mOpR_mono {a b : Expr} {m n : Ro → W Ex D} {r : R2} {g : D → D → Rt} (hg : DOpR G X r g) (ha : DE G X Wx a m) (hb : DE G X Wx b n) (ρ : Ro) : W.Mono (mOpR g m n ρ) :=
  (ha.mono ρ).bind fun d => (hb.mono ρ).bind fun e => (hg.1 d e).calm
theorem dr_op {op : Operator} {a b : Expr} {m n : Ro → W Ex D} {r : R2} {g : D → D → Rt} {pos : Pos} (ho : OpR X (binaryOp op) r) (hg : DOpR G X r g) (ha : DE G X Wx a m) (hb : DE G X Wx b n) : DR G X Wx (.BinOp a op b pos) (mOpR g m n) :=
  DR.imp (mOpR_mono hg ha hb) (pe_op ho ha.pe hb.pe) fun N ρ σ H Q rr q => opR_two hg ha hb rr q
theorem de_ix {a b : Expr} {m n : Ro → W Ex D} {r : R2} {g : D → D → W Ex D} {pos : Pos} (ho : IxR X r) (hg : DOp G X r g) (ha : DE G X Wx a m) (hb : DE G X Wx b n) (hs : PlainIx b) : DE G X Wx (.Subscript a b pos) (mOp g m n) :=
  DE.imp (mOp_mono hg ha hb) (pe_ix ho ha.pe hb.pe hs) fun N ρ σ H Q rr q => op_two hg ha hb rr q

/-! ### arithmetic -/
def gAdd : D → D → Rt
  | .int i, .int j => W.ret (false, .int (i + j))
  | .str x, .str y => if x.length + y.length ≤ sizeLine then W.ret (false, .str (x ++ y)) else W.fail
  | .lst xs, .lst ys => if xs.length + ys.length ≤ sizeLine then W.ret (true, .lst (xs ++ ys)) else W.fail
  | .tup xs, .tup ys => if xs.length + ys.length ≤ sizeLine then W.ret (false, .tup (xs ++ ys)) else W.fail
  | _, _ => W.fail
theorem ite_ret {ε α : Type} {c : Prop} [Decidable c] {m : W ε α} {Q : α → Prop} {E : ε → Prop} (h : (if c then m else W.fail) Q E) : c ∧ m Q E := by
  split at h
  · exact ⟨by assumption, h⟩
  · exact h.elim
def rAdd (K : PySem.W.Frag) : R2 := fun x y H Q => (((∃ i j, x = .int i ∧ y = .int j ∧ Q (.int (i + j)) H) ∨ (∃ i j, x = .str i ∧ y = .str j ∧ i.length + j.length ≤ sizeLine ∧ Q (.str (i ++ j)) H)) ∨ rCat x y H Q) ∨ rCatA K x y H Q
theorem op_addAll : OpR X (binaryOp .Add) (rAdd X.K) := ((op_add.or op_add_str).or op_cat).or op_catA
theorem dop_add (hK : X.K = G.K) : DOpR G X (rAdd X.K) gAdd := by
  refine ⟨fun a b => ?_, fun N H a b x y Q ra rb q => ?_⟩
  · unfold gAdd
    split
    · exact W.Mono.ret
    · exact ite_mono W.Mono.ret W.Mono.fail
    · exact ite_mono W.Mono.ret W.Mono.fail
    · exact ite_mono W.Mono.ret W.Mono.fail
    · exact W.Mono.fail
  · cases a <;> cases b <;> first | exact q.elim | skip
    · rename_i i j
      exact .inl (.inl (.inl ⟨i, j, ra, rb, q _ H (Same.refl H) rfl fun z => nomatch z⟩))
    · rename_i i j
      obtain ⟨c, q⟩ := ite_ret q
      exact .inl (.inl (.inr ⟨i, j, ra, rb, c, q _ H (Same.refl H) rfl fun z => nomatch z⟩))
    · rename_i xs ys
      obtain ⟨c3, q⟩ := ite_ret q
      obtain ⟨p, vs, ev, h1, r1⟩ := ra
      obtain ⟨p', vs', ev', h1', r1'⟩ := rb
      have l1 := r1.length
      have l2 := r1'.length
      refine .inr ⟨p, p', vs, vs', ev, ev', hK ▸ h1.sq, hK ▸ h1'.sq, by omega, fun z => ?_, fun _ z => ?_, fun _ _ l hl => ?_⟩
      · subst z
        have e : xs = [] := List.length_eq_zero_iff.mp l1.symm
        subst e
        exact q _ H (Same.refl H) ⟨p', vs', rfl, h1', by rw [List.nil_append]; exact r1'.sub fun _ => Fr.of⟩ fun z => nomatch z
      · subst z
        have e : ys = [] := List.length_eq_zero_iff.mp l2.symm
        subst e
        exact q _ H (Same.refl H) ⟨p, vs, rfl, h1, by rw [List.append_nil]; exact r1.sub fun _ => Fr.of⟩ fun z => nomatch z
      · have s : Same G H (upd H l (.tup (vs ++ vs'))) := .of fun b o e => by rw [upd_ne (ne_of_none e hl)]; exact e
        exact q (.ref l) _ s ⟨l, _, rfl, .inl upd_same, ((r1.app r1').same s).sub fun _ => Fr.of⟩ fun z => nomatch z
    · rename_i xs ys
      obtain ⟨c, q⟩ := ite_ret q
      obtain ⟨p, vs, ev, n1, h1, r1⟩ := ra
      obtain ⟨p', vs', ev', n1', h1', r1'⟩ := rb
      have l1 := r1.length
      have l2 := r1'.length
      refine .inl (.inr ⟨p, p', vs, vs', ev, ev', h1, h1', by omega, fun l hl => ?_⟩)
      have s : Same G H (upd H l (.lst (vs ++ vs'))) := .of fun b o e => by rw [upd_ne (ne_of_none e hl)]; exact e
      have rr := (r1.app r1').same s
      have nl : ∀ b, N b → H b ≠ none → (Fr N H b ∧ b ≠ l) := fun b z y => ⟨.inl z, fun e => y (e ▸ hl)⟩
      refine q (.ref l) _ s ⟨l, _, rfl, .inr hl, upd_same, rr.sub fun _ z => .inl z⟩ fun _ => ⟨l, rfl, hl, rfl, _, upd_same, ?_⟩
      exact (r1.app r1').mono nl (Le.of s)

def gII (f : Int → Int → W Ex D) : D → D → W Ex D
  | .int i, .int j => f i j
  | _, _ => W.fail
theorem dop_ii {r : R2} {f : Int → Int → W Ex D} (hm : ∀ i j, W.Mono (f i j)) (h : ∀ i j H Q, f i j (fun d => ∀ v, (∀ N H, Rep G N H d v) → Q v H) (fun _ => False) → r (.int i) (.int j) H Q) : DOp G X r (gII f) := by
  refine ⟨fun a b => ?_, fun N H a b x y Q ra rb q => ?_⟩
  · unfold gII
    split
    · exact hm _ _
    · exact W.Mono.fail
  · cases a <;> cases b <;> first | exact q.elim | skip
    rename_i i j
    obtain rfl : x = .int i := ra
    obtain rfl : y = .int j := rb
    exact h i j H Q ((hm i j).run (fun d z v rv => z v H (Same.refl H) (rv _ _)) (fun _ z => z) q)
def gSub : D → D → W Ex D := gII fun i j => W.ret (.int (i - j))
theorem dop_sub : DOp G X (rI0 fun i j => .int (i - j)) gSub := dop_ii (fun _ _ => W.Mono.ret) fun i j H Q q => ⟨i, j, rfl, rfl, q _ fun _ _ => rfl⟩
def gMul : D → D → W Ex D := gII fun i j => if (-(2 ^ 64) < i ∧ i < 2 ^ 64) ∨ (-(2 ^ 64) < j ∧ j < 2 ^ 64) then W.ret (.int (i * j)) else W.fail
theorem dop_mul : DOp G X (rI CMul fun i j => .int (i * j)) gMul := dop_ii (fun _ _ => ite_mono W.Mono.ret W.Mono.fail) fun i j H Q q => by
  obtain ⟨c, q⟩ := ite_ret q
  exact ⟨i, j, rfl, rfl, c, q _ fun _ _ => rfl⟩
def gFdiv : D → D → W Ex D := gII fun i j => if 0 < j ∧ j < 1073741824 then W.ret (.int (i / j)) else W.fail
theorem dop_fdiv : DOp G X (rI CDiv fun i j => .int (i / j)) gFdiv := dop_ii (fun _ _ => ite_mono W.Mono.ret W.Mono.fail) fun i j H Q q => by
  obtain ⟨c, q⟩ := ite_ret q
  exact ⟨i, j, rfl, rfl, c, q _ fun _ _ => rfl⟩
def gMod : D → D → W Ex D := gII fun i j => if 0 < j then W.ret (.int (i % j)) else W.fail
theorem dop_mod : DOp G X (rI (fun _ j => 0 < j) fun i j => .int (i % j)) gMod := dop_ii (fun _ _ => ite_mono W.Mono.ret W.Mono.fail) fun i j H Q q => by
  obtain ⟨c, q⟩ := ite_ret q
  exact ⟨i, j, rfl, rfl, c, q _ fun _ _ => rfl⟩
def gPow : D → D → W Ex D := gII fun i j => if 0 ≤ j ∧ j ≤ 1000000 ∧ i.natAbs < 2 ^ 64 then W.ret (.int (i ^ j.toNat)) else W.fail
theorem dop_pow : DOp G X (rI CPow fun i j => .int (i ^ j.toNat)) gPow := dop_ii (fun _ _ => ite_mono W.Mono.ret W.Mono.fail) fun i j H Q q => by
  obtain ⟨c, q⟩ := ite_ret q
  exact ⟨i, j, rfl, rfl, c, q _ fun _ _ => rfl⟩
def gLt : D → D → W Ex D := gII fun i j => W.ret (.bl (decide (i < j)))
theorem dop_lt : DOp G X (rI0 fun i j => .bl (decide (i < j))) gLt := dop_ii (fun _ _ => W.Mono.ret) fun i j H Q q => ⟨i, j, rfl, rfl, q _ fun _ _ => rfl⟩
def gLe : D → D → W Ex D := gII fun i j => W.ret (.bl (decide (i ≤ j)))
def gGt : D → D → W Ex D := gII fun i j => W.ret (.bl (decide (j < i)))
theorem dop_gt : DOp G X (rI0 fun i j => .bl (decide (j < i))) gGt := dop_ii (fun _ _ => W.Mono.ret) fun i j H Q q => ⟨i, j, rfl, rfl, q _ fun _ _ => rfl⟩
def gGe : D → D → W Ex D := gII fun i j => W.ret (.bl (decide (j ≤ i)))
theorem dop_ge : DOp G X (rI0 fun i j => .bl (decide (j ≤ i))) gGe := dop_ii (fun _ _ => W.Mono.ret) fun i j H Q q => ⟨i, j, rfl, rfl, q _ fun _ _ => rfl⟩
/-- -a -/
def mNeg (m : Ro → W Ex D) : Ro → W Ex D := fun ρ => W.bind (m ρ) fun d => match d with
  | .int i => W.ret (.int (-i))
  | _ => W.fail
theorem de_neg {a : Expr} {m : Ro → W Ex D} {pos : Pos} (ha : DE G X Wx a m) : DE G X Wx (.UnaryOp .USub a pos) (mNeg m) := by
  refine DE.imp (fun ρ => (ha.mono ρ).bind fun d => ?_) (pe_un un_neg ha.pe) fun N ρ σ H Q rr q => ?_
  · split
    · exact W.Mono.ret
    · exact W.Mono.fail
  · refine ha.go rr q (fun x z => z) fun d v H1 z s1 r1 _ => ?_
    cases d <;> first | exact z.elim | skip
    rename_i i
    exact ⟨i, r1, z _ H1 s1 rfl⟩

/-! ### == and != -/
def D.deq (a b : D) : Option Bool := match a.py, b.py with
  | some p, some q => if SeqAt.shaped p = true ∧ SeqAt.shaped q = true then some (PyData.eqv p q) else none
  | _, _ => none
def gEq (neg : Bool) (a b : D) : W Ex D := match D.deq a b with
  | some t => W.ret (.bl (t != neg))
  | none => W.fail
theorem deq_inv {a b : D} {t : Bool} (h : D.deq a b = some t) : ∃ p q, a.py = some p ∧ b.py = some q ∧ SeqAt.shaped p = true ∧ SeqAt.shaped q = true ∧ PyData.eqv p q = t := by
  unfold D.deq at h
  rcases ea : a.py with _ | p
  · rw [ea] at h; cases h
  · rcases eb : b.py with _ | q
    · rw [ea, eb] at h; cases h
    · rw [ea, eb] at h
      by_cases c : SeqAt.shaped p = true ∧ SeqAt.shaped q = true
      · simp only [if_pos c, Option.some.injEq] at h
        exact ⟨p, q, rfl, rfl, c.1, c.2, h⟩
      · simp only [if_neg c] at h
        cases h
theorem gEq_mono (neg : Bool) (a b : D) : W.Mono (gEq neg a b) := by
  unfold gEq
  split
  · exact W.Mono.ret
  · exact W.Mono.fail
theorem gEq_inv {neg : Bool} {a b : D} {Q : D → Prop} {E : Ex → Prop} (h : gEq neg a b Q E) : ∃ t, D.deq a b = some t ∧ Q (.bl (t != neg)) := by
  unfold gEq at h
  rcases e : D.deq a b with _ | t
  · rw [e] at h; exact h.elim
  · rw [e] at h; exact ⟨t, rfl, h⟩
theorem dop_eq (hK : X.K = G.K) : DOp G X (rEqD X.K) (gEq false) := by
  refine ⟨gEq_mono _, fun N H a b x y Q ra rb q => ?_⟩
  obtain ⟨t, e, q⟩ := gEq_inv q
  obtain ⟨p, p', e1, e2, s1, s2, e3⟩ := deq_inv e
  refine ⟨p, p', hK ▸ ra.dp e1, hK ▸ rb.dp e2, s1, s2, q _ H (Same.refl H) ?_⟩
  subst e3
  show V.bl _ = V.bl _
  simp
theorem dop_ne (hK : X.K = G.K) : DOp G X (rNeD X.K) (gEq true) := by
  refine ⟨gEq_mono _, fun N H a b x y Q ra rb q => ?_⟩
  obtain ⟨t, e, q⟩ := gEq_inv q
  obtain ⟨p, p', e1, e2, s1, s2, e3⟩ := deq_inv e
  refine ⟨p, p', hK ▸ ra.dp e1, hK ▸ rb.dp e2, s1, s2, q _ H (Same.refl H) ?_⟩
  subst e3
  show V.bl _ = V.bl _
  simp
/-- is None -/
def isN : D → Bool
  | .non => true
  | _ => false
theorem Rep.isN {N : Addr → Prop} {H : Hp} {d : D} {v : V} (r : Rep G N H d v) : decide (v = .non) = Fb.isN d := by
  cases d with
  | non => rw [show v = V.non from r]; rfl
  | bl b => rw [show v = V.bl b from r]; rfl
  | int b => rw [show v = V.int b from r]; rfl
  | str b => rw [show v = V.str b from r]; rfl
  | tup ds => obtain ⟨a, _, e, _⟩ := r; rw [e]; rfl
  | lst ds => obtain ⟨a, _, e, _⟩ := r; rw [e]; rfl
  | dic ds => obtain ⟨a, _, e, _⟩ := r; rw [e]; rfl
  | ins c ds => obtain ⟨a, _, _, _, e, _⟩ := r; rw [e]; rfl
  | obj x c ds => obtain ⟨e, _⟩ := r; rw [e]; rfl
  | stk _ _ _ _ => obtain ⟨a, e⟩ := r; rw [e]; rfl
  | box ds => obtain ⟨a, e, _⟩ := r; rw [e]; rfl
  | ty ds => rw [show v = V.ty ds from r]; rfl
  | cls ds => obtain ⟨a, e, _⟩ := r; rw [e]; rfl
  | exn x dd fs => obtain ⟨e, _⟩ := r; rw [e]; rfl
  | erv x c dd fs => obtain ⟨e, _⟩ := r; rw [e]; rfl
  | cel x ds => obtain ⟨e, _⟩ := r; rw [e]; rfl
  | raw a => rw [show v = V.ref a from r]; rfl
  | scr a => obtain ⟨a, e, _⟩ := r; rw [e]; rfl
  | clo k cs => obtain ⟨e, _⟩ := r; rw [e]; rfl
def gIs (neg : Bool) (a b : D) : W Ex D := match b with
  | .non => W.ret (.bl (isN a != neg))
  | _ => W.fail
/-! ### dicts -/
/-- what may be a key -/
def keyOf : D → Option Key
  | .int i => some (.inl i)
  | .str x => some (.inr x)
  | _ => none
theorem Rep.key {N : Addr → Prop} {H : Hp} {d : D} {v : V} {k : Key} (r : Rep G N H d v) (e : keyOf d = some k) : v = kV k := by
  cases d <;> simp [keyOf] at e
  · subst e; exact r
  · subst e; exact r
def lookK (kvs : List (Key × D)) (k : Key) : Option D := match kvs with
  | [] => none
  | (k', d) :: r => if k' = k then some d else lookK r k
theorem valV_cons (k' : Key) (w : V) (ws : List (Key × V)) (k : Key) : valV ((k', w) :: ws) k = if k' = k then some w else valV ws k := by
  unfold valV
  rw [List.find?_cons]
  by_cases h : k' = k
  · simp [h]
  · simp [h]
theorem RepK.look {N : Addr → Prop} {H : Hp} {k : Key} : ∀ {kvs : List (Key × D)} {ks : List (Key × V)}, RepK G N H kvs ks → match lookK kvs k with
    | some d => ∃ v, valV ks k = some v ∧ Rep G N H d v
    | none => valV ks k = none
  | [], _, h => by rw [show _ = [] from h]; rfl
  | (k', d) :: r, _, ⟨w, ws, e, rd, rs⟩ => by
    subst e
    unfold lookK
    rw [valV_cons]
    by_cases hk : k' = k
    · rw [if_pos hk, if_pos hk]
      exact ⟨w, rfl, rd⟩
    · rw [if_neg hk, if_neg hk]
      exact RepK.look rs
theorem RepK.length {N : Addr → Prop} {H : Hp} : ∀ {kvs : List (Key × D)} {ks : List (Key × V)}, RepK G N H kvs ks → ks.length = kvs.length
  | [], _, h => by rw [show _ = [] from h]; rfl
  | (k', d) :: r, _, ⟨w, ws, e, rd, rs⟩ => by rw [e, List.length_cons, List.length_cons, RepK.length rs]
theorem RepK.dget {N : Addr → Prop} {H : Hp} {a : Addr} {kvs : List (Key × D)} {ks : List (Key × V)} {k : Key} (r : RepK G N H kvs ks) (e : Rd H a (.dK ks)) : DGet H a (kV k) (valV ks k) := .inl ⟨ks, k, e, rfl, rfl⟩

/-! ### in -/
def strIn (x z : Str) : Bool := match x.cps.toList with
  | [c] => decide (c ∈ z.cps.toList)
  | _ => !(Builtin.Str.occurrences z x 0 z.length 1).isEmpty
def seqIn (ys : List D) (x : D) : Option Bool := match D.pys ys, x.py with
  | some ps, some p => if SeqAt.shaped p = true ∧ SeqAt.shaped (.list ps) = true ∧ SeqAt.shaped (.tuple ps) = true then some (ps.any fun z => PyData.eqv z p) else none
  | _, _ => none
def inD (x : D) : D → Option Bool
  | .lst ys => seqIn ys x
  | .tup ys => seqIn ys x
  | .dic kvs => match keyOf x with
    | some k => some (lookK kvs k).isSome
    | none => none
  | .str z => match x with
    | .str y => some (strIn y z)
    | _ => none
  | _ => none
def gIn (neg : Bool) (x y : D) : W Ex D := match inD x y with
  | some t => W.ret (.bl (t != neg))
  | none => W.fail
end
end Fb
end

section
set_option Elab.async false
set_option linter.all false
set_option maxRecDepth 100000
set_option maxHeartbeats 4000000
/-! Subscripts, slices, fields, tests, displays. -/
namespace Fb
open PySem PySem.Spec PyProof.Rows L2

section
variable {G : Wd} {X : Cx} {Wx : WX}
/-! ### a[b] -/
theorem Reps.at {N : Addr → Prop} {H : Hp} {ds : List D} {vs : List V} {i : Int} {d : D} (r : Reps G N H ds vs) (h : atI ds i = some d) : ∃ v, atI vs i = some v ∧ Rep G N H d v := by
  unfold atI at h ⊢
  rw [r.length]
  rcases e : ixN ds.length i with _ | j
  · rw [e] at h; cases h
  · rw [e] at h
    exact Reps.get' r h
def ixD : D → D → Option D
  | .lst xs, .int i => atI xs i
  | .tup xs, .int i => atI xs i
  | .str z, .int i => if z.length ≤ sizeLine then (atI z.cps.toList i).map fun c => .str ⟨#[c]⟩ else none
  | .dic kvs, k => match keyOf k with
    | some k => lookK kvs k
    | none => none
  | _, _ => none
def gIx (x y : D) : W Ex D := match ixD x y with
  | some d => W.ret d
  | none => W.fail
theorem gIx_mono (a b : D) : W.Mono (gIx a b) := by
  unfold gIx
  split
  · exact W.Mono.ret
  · exact W.Mono.fail
theorem gIx_inv {a b : D} {Q : D → Prop} {E : Ex → Prop} (h : gIx a b Q E) : ∃ d, ixD a b = some d ∧ Q d := by
  unfold gIx at h
  rcases e : ixD a b with _ | t
  · rw [e] at h; exact h.elim
  · rw [e] at h; exact ⟨t, rfl, h⟩
def rIxAll (G : Wd) : R2 := fun x y H Q => ∃ N a b d, Rep G N H a x ∧ Rep G N H b y ∧ ixD a b = some d ∧ ∀ v, Rep G N H d v → Q v H
theorem ix_all (Z : X.K = G.K) (hu : X.A.units + 1 < cLine) : IxR X (rIxAll G) := by
  intro value slice pins s σ H x y v u Q I rx ry h hs
  obtain ⟨N, a, b, d, ra, rb, e, q⟩ := h
  cases a with
  | lst xs =>
    cases b <;> first | (simp [ixD] at e; done) | skip
    rename_i i
    obtain ⟨p, vs, ev, n, h1, r1⟩ := ra
    obtain ⟨w, e1, r2⟩ := r1.at (show atI xs i = some d from e)
    exact ix_list value slice pins s σ H x y v u Q I rx ry ⟨p, vs, i, w, ev, rb, .of h1, e1, q w r2⟩ hs
  | tup xs =>
    cases b <;> first | (simp [ixD] at e; done) | skip
    rename_i i
    obtain ⟨p, vs, ev, h1, r1⟩ := ra
    obtain ⟨w, e1, r2⟩ := r1.at (show atI xs i = some d from e)
    exact ix_tup value slice pins s σ H x y v u Q I rx ry ⟨p, vs, i, w, ev, rb, Z ▸ h1.sq, e1, q w r2⟩ hs
  | str z =>
    cases b <;> first | (simp [ixD] at e; done) | skip
    rename_i i
    have e : (if z.length ≤ sizeLine then (atI z.cps.toList i).map fun c => D.str ⟨#[c]⟩ else none) = some d := e
    by_cases hz : z.length ≤ sizeLine
    · rw [if_pos hz] at e
      rcases ec : atI z.cps.toList i with _ | c
      · rw [ec] at e; cases e
      · rw [ec] at e
        cases e
        exact ix_str value slice pins s σ H x y v u Q I rx ry ⟨z, i, c, ra, rb, hz, ec, q _ rfl⟩ hs
    · rw [if_neg hz] at e; cases e
  | dic kvs =>
    obtain ⟨c, ks, ev, n, r, rk⟩ := ra
    subst ev
    obtain rfl : v = Value.ref c := rx
    rcases ek : keyOf b with _ | k
    · simp [ixD, ek] at e
    · have e : lookK kvs k = some d := by simpa [ixD, ek] using e
      have ex := rb.key ek
      subst ex
      have lk := rk.look (k := k)
      rw [e] at lk
      obtain ⟨w, hw, rw'⟩ := (lk : ∃ v, valV ks k = some v ∧ Rep G N H d v)
      have g : DGet H c (kV k) (some w) := hw ▸ rk.dget r
      exact tail_any (dict_typeIs I g) PySem.F.slot_dict_getitem.lookup (d_getItem hu I g ry fun w' s' I' rw2 => ⟨w, H, I', rw2, q w rw'⟩) hs
  | _ => simp [ixD] at e
theorem dop_ix : DOp G X (rIxAll G) gIx := by
  refine ⟨gIx_mono, fun N H a b x y Q ra rb q => ?_⟩
  obtain ⟨d, e, q⟩ := gIx_inv q
  exact ⟨N, a, b, d, ra, rb, e, fun v r => q v H (Same.refl H) (r.sub fun _ => Fr.of)⟩

/-! ### slices -/
def cutD (xs : List D) (lo hi : Option Int) : List D := (xs.drop (HT.sIx xs.length 0 lo)).take (HT.sIx xs.length xs.length hi - HT.sIx xs.length 0 lo)
theorem Reps.drop {N : Addr → Prop} {H : Hp} : ∀ {ds : List D} {vs : List V} (n : Nat), Reps G N H ds vs → Reps G N H (ds.drop n) (vs.drop n)
  | _, _, 0, h => h
  | [], _, n + 1, h => by rw [show _ = [] from h]; exact rfl
  | _ :: _, _, n + 1, ⟨w, ws, e, _, rs⟩ => by subst e; exact Reps.drop n rs
theorem Reps.take {N : Addr → Prop} {H : Hp} : ∀ {ds : List D} {vs : List V} (n : Nat), Reps G N H ds vs → Reps G N H (ds.take n) (vs.take n)
  | _, _, 0, h => rfl
  | [], _, n + 1, h => by rw [show _ = [] from h]; exact rfl
  | _ :: _, _, n + 1, ⟨w, ws, e, r, rs⟩ => by subst e; exact ⟨w, ws.take n, rfl, r, Reps.take n rs⟩
theorem Reps.cut {N : Addr → Prop} {H : Hp} {ds : List D} {vs : List V} {lo hi : Option Int} (r : Reps G N H ds vs) : Reps G N H (cutD ds lo hi) (cutV vs lo hi) := by
  unfold cutD cutV
  rw [r.length]
  exact (r.drop _).take _
/-- a part of a slice -/
structure DO (G : Wd) (X : Cx) (Wx : WX) (e : Option Expr) (m : Ro → W Ex (Option Int)) : Prop where
  po : PO X e (fun σ H Q => ∃ N ρ, ERel G N H σ ρ ∧ m ρ (fun o => ∀ H', Same G H H' → Q o H') (PoX G N Wx H σ))
  mono : ∀ ρ, W.Mono (m ρ)
def mNoPart : Ro → W Ex (Option Int) := fun _ => W.ret none
def mPart (m : Ro → W Ex D) : Ro → W Ex (Option Int) := fun ρ => W.bind (m ρ) fun d => match d with
  | .int i => W.ret (some i)
  | _ => W.fail
theorem do_none : DO G X Wx none mNoPart := ⟨⟨fun pins s σ H Q I ⟨N, ρ, r, q⟩ => po_none.run pins s σ H Q I (q H (Same.refl H))⟩, fun _ => W.Mono.ret⟩
theorem do_some {e : Expr} {m : Ro → W Ex D} (h : DE G X Wx e m) : DO G X Wx (some e) (mPart m) := by
  refine ⟨⟨fun pins s σ H Q I ⟨N, ρ, r, q⟩ => (po_some h.pe).run pins s σ H Q I ?_⟩, fun ρ => (h.mono ρ).bind fun d => ?_⟩
  · refine h.go r q (fun x z => z) fun d v H1 z s1 r1 _ => ?_
    cases d <;> first | exact z.elim | skip
    exact ⟨_, r1, z H1 s1⟩
  · split
    · exact W.Mono.ret
    · exact W.Mono.fail
theorem Reps.ofInts {N : Addr → Prop} {H : Hp} : ∀ ns : List Int, Reps G N H (ns.map D.int) (ns.map V.int)
  | [] => rfl
  | i :: r => ⟨.int i, _, rfl, rfl, Reps.ofInts r⟩
def gSl (d : D) (lo hi : Option Int) : Rt := match d with
  | .scr ns => W.ret (true, .lst (cutD (ns.map D.int) lo hi))
  | .lst xs => W.ret (true, .lst (cutD xs lo hi))
  | .tup xs => W.ret (false, .tup (cutD xs lo hi))
  | _ => W.fail
theorem gSl_mono (d : D) (lo hi : Option Int) : W.Mono (gSl d lo hi) := by
  unfold gSl
  split
  · exact W.Mono.ret
  · exact W.Mono.ret
  · exact W.Mono.ret
  · exact W.Mono.fail
def mSlice (m : Ro → W Ex D) (l h : Ro → W Ex (Option Int)) : Ro → W Ex (Bool × D) := fun ρ => W.bind (m ρ) fun d => W.bind (l ρ) fun lo => W.bind (h ρ) fun hi => gSl d lo hi
/-- a new list at l -/
theorem new_lst {N : Addr → Prop} {H : Hp} {Q : VK} {ds : List D} {vs : List V} (r : Reps G N H ds vs) (q : PoR G N H Q (true, .lst ds)) (l : Addr) (hl : H l = none) : Q (.ref l) (upd H l (.lst vs)) := by
  have s : Same G H (upd H l (.lst vs)) := .of fun b o e => by rw [upd_ne (ne_of_none e hl)]; exact e
  refine q (.ref l) _ s ⟨l, _, rfl, .inr hl, upd_same, (r.same s).sub fun _ z => .inl z⟩ fun _ => ⟨l, rfl, hl, rfl, _, upd_same, ?_⟩
  exact r.mono (fun b z y => ⟨.inl z, fun e => y (e ▸ hl)⟩) (Le.of s)
theorem new_tup {N : Addr → Prop} {H : Hp} {Q : VK} {ds : List D} {vs : List V} (r : Reps G N H ds vs) (q : PoR G N H Q (false, .tup ds)) (l : Addr) (hl : H l = none) : Q (.ref l) (upd H l (.tup vs)) := by
  have s : Same G H (upd H l (.tup vs)) := .of fun b o e => by rw [upd_ne (ne_of_none e hl)]; exact e
  exact q (.ref l) _ s ⟨l, _, rfl, .inl upd_same, (r.same s).sub fun _ => Fr.of⟩ fun z => nomatch z
theorem dr_slice {e : Expr} {lo hi : Option Expr} {m : Ro → W Ex D} {l h : Ro → W Ex (Option Int)} {p2 pos : Pos} (Z : X.K = G.K) (he : DE G X Wx e m) (hl : DO G X Wx lo l) (hh : DO G X Wx hi h) : DR G X Wx (.Subscript e (.Slice lo hi none p2) pos) (mSlice m l h) := by
  refine DR.imp (fun ρ => (he.mono ρ).bind fun d => (hl.mono ρ).bind fun _ => (hh.mono ρ).bind fun _ => gSl_mono _ _ _) (pe_slice (sl_list.or sl_tupA) he.pe hl.po hh.po) fun N ρ σ H Q r q => ?_
  refine he.go r q (fun x z => z) fun d v H1 z s1 r1 rr1 => ?_
  refine ⟨N, ρ, rr1, (hl.mono ρ).run (fun lo' z H2 s2 => ?_) (fun x z => z.step s1) z⟩
  refine ⟨N, ρ, rr1.same s2, (hh.mono ρ).run (fun hi' z H3 s3 => ?_) (fun x z => z.step (s1.trans s2)) z⟩
  have s : Same G H H3 := (s1.trans s2).trans s3
  cases d with
  | scr ns =>
    obtain ⟨p, ev, h1⟩ := r1
    exact .inl ⟨p, _, ev, Z ▸ ((Le.of (s2.trans s3)).scr h1).sq, fun a ha => new_lst (N := Fr N H) (Reps.cut (Reps.ofInts ns)) (PoR.step (h := z) s) a ha⟩
  | lst xs =>
    obtain ⟨p, vs, ev, n, h1, rs⟩ := r1
    exact .inl ⟨p, vs, ev, .of ((s2.trans s3).at h1), fun a ha => new_lst (rs.same (s2.trans s3)).cut (PoR.step (h := z) s) a ha⟩
  | tup xs =>
    obtain ⟨p, vs, ev, h1, rs⟩ := r1
    refine .inr ⟨p, vs, ev, Z ▸ ((Le.of (s2.trans s3)).tupT h1).sq, fun c => ?_, fun c a ha => new_tup (rs.same (s2.trans s3)).cut (PoR.step (h := z) s) a ha⟩
    rw [rs.length] at c
    have ec : cutD xs lo' hi' = xs := by
      unfold cutD
      rw [c.1, c.2, Nat.sub_zero, List.drop_zero, List.take_length]
    have z' : PoR G N H Q (false, .tup (cutD xs lo' hi')) := z
    rw [ec] at z'
    exact z' (.ref p) H3 s ⟨p, vs, rfl, (Le.of (s2.trans s3)).tupT h1, rs.same (s2.trans s3)⟩ fun z => nomatch z
  | _ => exact z.elim

/-! ### fields -/
theorem RepF.look {N : Addr → Prop} {H : Hp} {f : Str} : ∀ {fs : List (Str × D)} {gs : List (Str × V)} {d : D}, RepF G N H fs gs → fs.lookup f = some d → ∃ v, gs.lookup f = some v ∧ Rep G N H d v
  | [], _, _, h, e => by cases e
  | (k, d') :: r, _, d, ⟨w, ws, ew, rd, rs⟩, e => by
    subst ew
    rw [List.lookup_cons] at e ⊢
    cases hb : f == k with
    | true =>
      rw [hb] at e
      cases e
      exact ⟨w, rfl, rd⟩
    | false =>
      rw [hb] at e
      exact RepF.look rs e
structure ClsD (G : Wd) (c : Str) (C : Addr) : Prop where
  mg : G.mg c = some (.ref C)
  cl : Cls G.K C
def asIns (c : Str) : D → Option (List (Str × D))
  | .ins c' fs => if c' = c then some fs else none
  | .obj _ c' fs => if c' = c then some fs else none
  | _ => none
def fldD (c f : Str) (d : D) : Option D := match d with
  | .ins c' fs => if c' = c then fs.lookup f else none
  | .obj _ c' fs => if c' = c then fs.lookup f else none
  | _ => none
def W.opt (o : Option D) : W Ex D := match o with
  | some d => W.ret d
  | none => W.fail
def gFld (c f : Str) (d : D) : W Ex D := W.opt (fldD c f d)
def mFld (c f : Str) (m : Ro → W Ex D) : Ro → W Ex D := fun ρ => W.bind (m ρ) (gFld c f)
/-! ### tests -/
def asB (d : D) : W Ex Bool := match d with
  | .bl b => W.ret b
  | _ => W.fail
theorem asB_mono (d : D) : W.Mono (asB d) := by
  unfold asB
  split
  · exact W.Mono.ret
  · exact W.Mono.fail
theorem asB_inv {d : D} {Q : Bool → Prop} {E : Ex → Prop} (h : asB d Q E) : ∃ b, d = .bl b ∧ Q b := by
  cases d with
  | bl b => exact ⟨b, rfl, h⟩
  | _ => exact h.elim
def mTest (m : Ro → W Ex D) : Ro → W Ex Bool := fun ρ => W.bind (m ρ) asB
theorem dt_cmp {op : CmpOp} {a b : Expr} {m n : Ro → W Ex D} {r : R2} {g : D → D → W Ex D} {pos : Pos} (ho : OpR X (compareOp op) r) (hg : DOp G X r g) (ha : DE G X Wx a m) (hb : DE G X Wx b n) (hm : behindInMarks op b = false) : DT G X Wx (.Compare a [op] [b] pos) (mTest (mOp g m n)) := by
  refine DT.imp (fun ρ => (mOp_mono hg ha hb ρ).bind asB_mono) (pt_cmpR ho ha.pe hb.pe hm) fun N ρ σ H Q rr q => ?_
  refine op_two (Q := fun x H' => ∃ k, x = .bl k ∧ Q k H') hg ha hb rr ((mOp_mono hg ha hb ρ).run (fun d z v H1 s1 r1 => ?_) (fun _ z => z) q)
  obtain ⟨b, e, q⟩ := asB_inv z
  subst e
  exact ⟨b, r1, q H1 s1⟩
/-- and, or as tests -/
structure DW (G : Wd) (X : Cx) (Wx : WX) (e : Expr) (m : Ro → W Ex Bool) : Prop where
  pw : PW X e (tT G Wx m)
  mono : ∀ ρ, W.Mono (m ρ)
theorem DW.dt {e : Expr} {m : Ro → W Ex Bool} (h : DW G X Wx e m) : DT G X Wx e m := ⟨h.pw.pt, h.mono⟩
def mAnd (m n : Ro → W Ex Bool) : Ro → W Ex Bool := fun ρ => W.bind (m ρ) fun b => if b = true then n ρ else W.ret false
def mOr (m n : Ro → W Ex Bool) : Ro → W Ex Bool := fun ρ => W.bind (m ρ) fun b => if b = true then W.ret true else n ρ
theorem dw_and1 {a : Expr} {m : Ro → W Ex Bool} {pos : Pos} (h : DT G X Wx a m) : DW G X Wx (.BoolOp .And [a] pos) m := ⟨pw_and1 h.pt, h.mono⟩
theorem dw_or1 {a : Expr} {m : Ro → W Ex Bool} {pos : Pos} (h : DT G X Wx a m) : DW G X Wx (.BoolOp .Or [a] pos) m := ⟨pw_or1 h.pt, h.mono⟩
theorem dw_and {a b : Expr} {rest : List Expr} {m n : Ro → W Ex Bool} {pos : Pos} (h : DT G X Wx a m) (hr : DW G X Wx (.BoolOp .And (b :: rest) pos) n) : DW G X Wx (.BoolOp .And (a :: b :: rest) pos) (mAnd m n) := by
  refine ⟨⟨fun wh pins s σ H Q I ⟨N, ρ, r, q⟩ => (pw_and h.pt hr.pw).run wh pins s σ H Q I ?_⟩, fun ρ => (h.mono ρ).bind fun b => ite_mono (hr.mono ρ) W.Mono.ret⟩
  refine h.go r q (fun x z => z) fun b H1 z s1 rr => ?_
  cases b with
  | true => exact ⟨N, ρ, rr, (hr.mono ρ).run (fun b z H2 s2 => z H2 (s1.trans s2)) (fun x z => z.step s1) z⟩
  | false => exact z H1 s1
theorem dw_or {a b : Expr} {rest : List Expr} {m n : Ro → W Ex Bool} {pos : Pos} (h : DT G X Wx a m) (hr : DW G X Wx (.BoolOp .Or (b :: rest) pos) n) : DW G X Wx (.BoolOp .Or (a :: b :: rest) pos) (mOr m n) := by
  refine ⟨⟨fun wh pins s σ H Q I ⟨N, ρ, r, q⟩ => (pw_or h.pt hr.pw).run wh pins s σ H Q I ?_⟩, fun ρ => (h.mono ρ).bind fun b => ite_mono W.Mono.ret (hr.mono ρ)⟩
  refine h.go r q (fun x z => z) fun b H1 z s1 rr => ?_
  cases b with
  | false => exact ⟨N, ρ, rr, (hr.mono ρ).run (fun b z H2 s2 => z H2 (s1.trans s2)) (fun x z => z.step s1) z⟩
  | true => exact z H1 s1
def mNot (m : Ro → W Ex Bool) : Ro → W Ex Bool := fun ρ => W.bind (m ρ) fun b => W.ret (!b)
/-! ### .. as values -/
def mAndV (m n : Ro → W Ex D) : Ro → W Ex D := fun ρ => W.bind (m ρ) fun d => W.bind (asB d) fun b => if b = true then n ρ else W.ret (.bl false)
def mOrV (m n : Ro → W Ex D) : Ro → W Ex D := fun ρ => W.bind (m ρ) fun d => W.bind (asB d) fun b => if b = true then W.ret (.bl true) else n ρ
def mNotV (m : Ro → W Ex D) : Ro → W Ex D := fun ρ => W.bind (m ρ) fun d => W.bind (asB d) fun b => W.ret (.bl (!b))
/-- a if t else b -/
def mIfE {α : Type} (c : Ro → W Ex Bool) (m n : Ro → W Ex α) : Ro → W Ex α := fun ρ => W.bind (c ρ) fun b => if b = true then m ρ else n ρ
theorem dr_if {c a b : Expr} {mc : Ro → W Ex Bool} {m n : Ro → W Ex (Bool × D)} {pos : Pos} (hc : DT G X Wx c mc) (ha : DR G X Wx a m) (hb : DR G X Wx b n) : DR G X Wx (.IfExp c a b pos) (mIfE mc m n) := by
  refine DR.imp (fun ρ => (hc.mono ρ).bind fun b => ite_mono (ha.mono ρ) (hb.mono ρ)) (pe_ifExp hc.pt ha.pe hb.pe) fun N ρ σ H Q r q => ?_
  refine hc.go r q (fun x z => z) fun t H1 z s1 rr => ?_
  have back : ∀ p, PoR G N H Q p → PoR G N H1 Q p := fun p z v H2 s2 r2 f2 => z v H2 (s1.trans s2) (r2.sub fun _ y => y.step s1) fun w => by
    obtain ⟨a, e1, e2, en, e3⟩ := f2 w
    exact ⟨a, e1, s1.free e2, en, e3.mono (fun b y _ => ⟨y.1.step s1, y.2⟩) (Same.refl H2)⟩
  cases t with
  | true => exact ⟨N, ρ, rr, (ha.mono ρ).run back (fun x z => z.step s1) z⟩
  | false => exact ⟨N, ρ, rr, (hb.mono ρ).run back (fun x z => z.step s1) z⟩
/-! ### displays -/
def szd {α : Type} (ds : List D) (m : W Ex α) : W Ex α := if ds.length ≤ sizeLine then m else W.fail
def mTup (m : Ro → W Ex (List D)) : Ro → W Ex D := fun ρ => W.bind (m ρ) fun ds => szd ds (W.ret (.tup ds))
def mLst (m : Ro → W Ex (List D)) : Ro → W Ex (Bool × D) := fun ρ => W.bind (m ρ) fun ds => szd ds (W.ret (true, .lst ds))
theorem szd_mono {α : Type} {ds : List D} {m : W Ex α} (h : W.Mono m) : W.Mono (szd ds m) := ite_mono h W.Mono.fail
theorem de_tup {es : List Expr} {m : Ro → W Ex (List D)} {k : Nat} {pos : Pos} (h : DA G X Wx es m) : DE G X Wx (.Tuple es k pos) (mTup m) := by
  refine DE.imp (fun ρ => (h.mono ρ).bind fun _ => szd_mono W.Mono.ret) (pe_tup h.pa) fun N ρ σ H Q r q => ?_
  refine h.go r q (fun x z => z) fun ds vs H1 z s1 r1 _ => ?_
  obtain ⟨hz, z⟩ := ite_ret z
  refine ⟨by rw [r1.length]; exact hz, fun p hp => ?_⟩
  have s : Same G H1 (upd H1 p (.tup vs)) := .of fun b o e => by rw [upd_ne (ne_of_none e hp)]; exact e
  exact z (.ref p) _ (s1.trans s) ⟨p, vs, rfl, .inl upd_same, r1.same s⟩
theorem dr_lst {es : List Expr} {m : Ro → W Ex (List D)} {pos : Pos} (h : DA G X Wx es m) : DR G X Wx (.List es pos) (mLst m) := by
  refine DR.imp (fun ρ => (h.mono ρ).bind fun _ => szd_mono W.Mono.ret) (pe_lst h.pa) fun N ρ σ H Q r q => ?_
  refine h.go r q (fun x z => z) fun ds vs H1 z s1 r1 _ => ?_
  obtain ⟨hz, z⟩ := ite_ret z
  exact ⟨by rw [r1.length]; exact hz, fun p hp => new_lst r1 (PoR.step (h := z) s1) p hp⟩
/-- *e, .. -/
def asSeq (d : D) : W Ex (List D) := match d with
  | .tup xs => W.ret xs
  | .lst xs => W.ret xs
  | _ => W.fail
def mStar (m : Ro → W Ex D) (n : Ro → W Ex (List D)) : Ro → W Ex (List D) := fun ρ => W.bind (m ρ) fun d => W.bind (asSeq d) fun xs => W.bind (n ρ) fun ds => W.ret (xs ++ ds)
end
end Fb
end

section
set_option Elab.async false
set_option linter.all false
set_option maxRecDepth 100000
set_option maxHeartbeats 4000000
/-! Built-in functions and types over data. -/
namespace Fb
open PySem PySem.Spec PyProof.Rows L2

/-- a built-in's reading by data -/
def rD (G : Wd) (g : List D → Rt) : List V → Hp → VK → Prop := fun vs H Q => ∃ N ds, Reps G N H ds vs ∧ g ds (PoR G N H Q) (fun _ => False)
def mBlt (g : List D → Rt) (m : Ro → W Ex (List D)) : Ro → W Ex (Bool × D) := fun ρ => W.bind (m ρ) fun ds => W.calm (g ds)
section
variable {G : Wd} {X : Cx} {Wx : WX}
theorem blt_go {es : List Expr} {m : Ro → W Ex (List D)} {g : List D → Rt} (hg : ∀ ds, W.Mono (g ds)) (ha : DA G X Wx es m) {N : Addr → Prop} {ρ : Ro} {σ : Fb.St} {H : Hp} {Q : VK} (r : ERel G N H σ ρ) (q : mBlt g m ρ (PoR G N H Q) (PoX G N Wx H σ)) : tCB (rD G g) (tA G Wx m) σ H Q :=
  ha.go r q (fun x z => z) fun ds vs H1 z s1 r1 _ => ⟨_, ds, r1, (hg ds).run (fun p z => z.step s1) (fun _ z => z) z⟩
theorem dr_callB {x : Str} {id : String} {e : Expr} {es : List Expr} {p pos : Pos} {m : Ro → W Ex (List D)} {g : List D → Rt} (hg : ∀ ds, W.Mono (g ds)) (hc : CallR X (.builtin id) (rD G g)) (hm : G.mg x = none) (Z : X.mg = G.mg) (hv : bootBuiltins x = some (.builtin id)) (hG : Gl X x) (ha : DA G X Wx (e :: es) m)
    (hn : x ≠ "__name__" := by decide) (hdb : (x == ("__debug__" : Str)) = false := by decide) (he : starEach (e :: es) X.env = (false, eval e X.env) :: starEach es X.env := by rfl) (hpl : (backTo pos (starEach es X.env)).any (·.1) = false := by rfl) : DR G X Wx (.Call (.Name x p) (e :: es) [] pos) (mBlt g m) :=
  DR.imp (fun ρ => (ha.mono ρ).bind fun ds => (hg ds).calm) (pe_callB hc hG (Z ▸ hm) hv ha.pa hn hdb he hpl) fun N ρ σ H Q r q => blt_go hg ha r q
theorem dr_callTy {x : Str} {id : String} {e : Expr} {es : List Expr} {p pos : Pos} {m : Ro → W Ex (List D)} {g : List D → Rt} (hg : ∀ ds, W.Mono (g ds)) (hc : CallR X (.type id) (rD G g)) (hm : G.mg x = none) (Z : X.mg = G.mg) (hv : bootBuiltins x = some (.type id)) (hG : Gl X x) (ha : DA G X Wx (e :: es) m)
    (hn : x ≠ "__name__" := by decide) (hdb : (x == ("__debug__" : Str)) = false := by decide) (he : starEach (e :: es) X.env = (false, eval e X.env) :: starEach es X.env := by rfl) (hpl : (backTo pos (starEach es X.env)).any (·.1) = false := by rfl) : DR G X Wx (.Call (.Name x p) (e :: es) [] pos) (mBlt g m) :=
  DR.imp (fun ρ => (ha.mono ρ).bind fun ds => (hg ds).calm) (pe_callTy hc hG (Z ▸ hm) hv ha.pa hn hdb he hpl) fun N ρ σ H Q r q => blt_go hg ha r q

theorem Reps.one_inv {N : Addr → Prop} {H : Hp} {d : D} {vs : List V} (r : Reps G N H [d] vs) : ∃ v, vs = [v] ∧ Rep G N H d v := by
  obtain ⟨w, ws, e, r1, r2⟩ := r
  rw [show ws = [] from r2] at e
  exact ⟨w, e, r1⟩
theorem Reps.two_inv {N : Addr → Prop} {H : Hp} {d e : D} {vs : List V} (r : Reps G N H [d, e] vs) : ∃ v w, vs = [v, w] ∧ Rep G N H d v ∧ Rep G N H e w := by
  obtain ⟨w, ws, e, r1, r2⟩ := r
  obtain ⟨u, e2, r3⟩ := Reps.one_inv r2
  subst e2
  exact ⟨w, u, e, r1, r3⟩
/-- a built-in of one value without a new object -/
def g1 (f : D → Option D) : List D → Rt := fun ds => match ds with
  | [d] => (match f d with
    | some e => W.ret (false, e)
    | none => W.fail)
  | _ => W.fail
theorem g1_mono (f : D → Option D) (ds : List D) : W.Mono (g1 f ds) := by
  unfold g1
  split
  · split
    · exact W.Mono.ret
    · exact W.Mono.fail
  · exact W.Mono.fail
theorem g1_inv {f : D → Option D} {ds : List D} {Q : Bool × D → Prop} {E : Ex → Prop} (h : g1 f ds Q E) : ∃ d e, ds = [d] ∧ f d = some e ∧ Q (false, e) := by
  rcases ds with _ | ⟨d, _ | ⟨d', ds⟩⟩
  · exact h.elim
  · have h : (match f d with | some e => W.ret (false, e) | none => W.fail : Rt) Q E := h
    rcases e : f d with _ | x
    · rw [e] at h; exact h.elim
    · rw [e] at h; exact ⟨d, x, rfl, e, h⟩
  · exact h.elim
theorem cr_g1 {f : Value} {r : V → Hp → VK → Prop} {g : D → Option D} (hf : ∀ (pins : List (Addr × Obj)) (s : Shared) (σ : L2.St) (H : Hp) (N : Addr → Prop) (d e : D) (x : V) (u : Value) (Q : VK), Inv X pins σ H s → RelV x u → Rep G N H d x → g d = some e → (∀ v, Rep G (Fr N H) H e v → Q v H) →
    wpAny (model X.prog X.w) X.A (call f [u]) (EP X pins σ Q) X.xe s) : CallR X f (rD G (g1 g)) := by
  intro pins s σ H xs us Q I r h
  obtain ⟨N, ds, rr, q⟩ := h
  obtain ⟨d, e, rfl, e1, q⟩ := g1_inv q
  obtain ⟨v, rfl, r1⟩ := rr.one_inv
  obtain ⟨u, rfl, rx⟩ := vals1 r
  exact hf pins s σ H N d e v u Q I rx r1 e1 fun w rw' => q w H (Same.refl H) rw' fun z => nomatch z

/-! ### len, str, int, abs -/
def lenD : D → Option D
  | .str x => if x.length ≤ sizeLine then some (.int x.length) else none
  | .tup xs => some (.int xs.length)
  | .lst xs => some (.int xs.length)
  | .dic xs => some (.int xs.length)
  | .scr ns => some (.int ns.length)
  | _ => none
theorem bl_len (Z : X.K = G.K) : CallR X (.builtin "len") (rD G (g1 lenD)) := cr_g1 (r := fun _ _ _ => True) fun pins s σ H N d e x u Q I rx rd h q => by
  cases d with
  | str z =>
    have h : (if z.length ≤ sizeLine then some (D.int z.length) else none) = some e := h
    by_cases hz : z.length ≤ sizeLine
    · rw [if_pos hz] at h
      cases h
      exact call_len_str pins s σ H [x] [u] Q I (.cons rx .nil) ⟨z, by rw [show x = .str z from rd], hz, q _ rfl⟩
    · rw [if_neg hz] at h; cases h
  | tup ds =>
    obtain ⟨a, vs, ev, hq, rs⟩ := rd
    cases (show some (D.int ds.length) = some e from h)
    exact call_len_seq pins s σ H [x] [u] Q I (.cons rx .nil) ⟨a, vs, by rw [ev], .inr (Z ▸ hq.sq), q _ (by rw [rs.length]; rfl)⟩
  | lst ds =>
    obtain ⟨a, vs, ev, n, hq, rs⟩ := rd
    cases (show some (D.int ds.length) = some e from h)
    exact call_len_seq pins s σ H [x] [u] Q I (.cons rx .nil) ⟨a, vs, by rw [ev], .inl (.of hq), q _ (by rw [rs.length]; rfl)⟩
  | dic ds =>
    obtain ⟨a, vs, ev, n, hq, rs⟩ := rd
    cases (show some (D.int ds.length) = some e from h)
    subst ev
    obtain rfl : u = Value.ref a := rx
    exact d_len I hq fun t s' I' => ⟨.int vs.length, H, I', ⟨t, rfl⟩, q _ (by rw [rs.length]; rfl)⟩
  | scr ns =>
    obtain ⟨a, ev, hq⟩ := rd
    cases (show some (D.int ns.length) = some e from h)
    exact call_len_seq pins s σ H [x] [u] Q I (.cons rx .nil) ⟨a, _, by rw [ev], .inl (Z ▸ hq.sq), q _ (by rw [List.length_map]; rfl)⟩
  | _ => cases h
def strD : D → Option D
  | .str x => some (.str x)
  | .int i => if i.natAbs.log2 < 1920 then some (.str (toString i)) else none
  | _ => none
def intD : D → Option D
  | .int i => some (.int i)
  | .bl b => some (.int (if b then 1 else 0))
  | .str x => if x.length ≤ 640 then (PySem.intText? x).map .int else none
  | _ => none
theorem bl_int : CallR X (.type "int") (rD G (g1 intD)) := cr_g1 (r := fun _ _ _ => True) fun pins s σ H N d e x u Q I rx rd h q => by
  cases d with
  | int i =>
    cases (show some (D.int i) = some e from h)
    exact call_int1 pins s σ H [x] [u] Q I (.cons rx .nil) (.inl ⟨i, by rw [show x = .int i from rd], q _ rfl⟩)
  | bl b =>
    cases (show some (D.int (if b then 1 else 0)) = some e from h)
    exact call_int1 pins s σ H [x] [u] Q I (.cons rx .nil) (.inr ⟨b, by rw [show x = .bl b from rd], q _ rfl⟩)
  | str z =>
    have h : (if z.length ≤ 640 then (PySem.intText? z).map D.int else none) = some e := h
    by_cases hz : z.length ≤ 640
    · rw [if_pos hz] at h
      rcases en : PySem.intText? z with _ | n
      · rw [en] at h; cases h
      · rw [en] at h
        cases h
        exact call_int_str pins s σ H [x] [u] Q I (.cons rx .nil) ⟨z, n, by rw [show x = .str z from rd], en, hz, q _ rfl⟩
    · rw [if_neg hz] at h; cases h
  | _ => cases h
def absD : D → Option D
  | .int i => some (.int (if i < 0 then -i else i))
  | _ => none
theorem bl_abs : CallR X (.builtin "abs") (rD G (g1 absD)) := cr_g1 (r := fun _ _ _ => True) fun pins s σ H N d e x u Q I rx rd h q => by
  cases d with
  | int i =>
    cases (show some (D.int (if i < 0 then -i else i)) = some e from h)
    exact call_abs pins s σ H [x] [u] Q I (.cons rx .nil) ⟨i, by rw [show x = .int i from rd], q _ rfl⟩
  | _ => cases h

/-! ### all, any -/
/-! ### min, max of two or of a list of ints; isinstance -/
def intsOf : List D → Option (List Int)
  | [] => some []
  | .int b :: r => (intsOf r).map (b :: ·)
  | _ :: _ => none
theorem Reps.ints {N : Addr → Prop} {H : Hp} : ∀ {ds : List D} {vs : List V} {ns : List Int}, Reps G N H ds vs → intsOf ds = some ns → vs = ns.map V.int
  | [], _, ns, h, e => by cases e; exact h
  | d :: ds, _, ns, ⟨w, ws, ev, r, rs⟩, e => by
    cases d <;> first | (cases e; done) | skip
    rename_i i
    have e : (intsOf ds).map (i :: ·) = some ns := e
    rcases e2 : intsOf ds with _ | cs
    · rw [e2] at e; cases e
    · rw [e2] at e
      cases e
      rw [ev, show w = .int i from r, Reps.ints rs e2]
      rfl
def g2 (f : D → D → Option D) : List D → Rt := fun ds => match ds with
  | [d, e] => (match f d e with
    | some x => W.ret (false, x)
    | none => W.fail)
  | _ => W.fail
theorem g2_mono (f : D → D → Option D) (ds : List D) : W.Mono (g2 f ds) := by
  unfold g2
  split
  · split
    · exact W.Mono.ret
    · exact W.Mono.fail
  · exact W.Mono.fail
theorem g2_inv {f : D → D → Option D} {ds : List D} {Q : Bool × D → Prop} {E : Ex → Prop} (h : g2 f ds Q E) : ∃ d e x, ds = [d, e] ∧ f d e = some x ∧ Q (false, x) := by
  rcases ds with _ | ⟨d, _ | ⟨e, _ | ⟨f', ds⟩⟩⟩
  · exact h.elim
  · exact h.elim
  · have h : (match f d e with | some x => W.ret (false, x) | none => W.fail : Rt) Q E := h
    rcases e2 : f d e with _ | x
    · rw [e2] at h; exact h.elim
    · rw [e2] at h; exact ⟨d, e, x, rfl, e2, h⟩
  · exact h.elim
end
end Fb
end

section
set_option Elab.async false
set_option linter.all false
set_option maxRecDepth 100000
set_option maxHeartbeats 4000000
/-! Walks: what a loop or a block goes over; for; list blocks. -/
namespace Fb
open PySem PySem.Spec PyProof.Rows L2

/-! ### what stays, but for lists and dicts outside N -/
def LeX (G : Wd) (N : Addr → Prop) (H H' : Hp) : Prop := ∀ a o, H a = some o → (N a ∨ ¬ isM G o) → H' a = some o
section
variable {G : Wd} {N N' : Addr → Prop} {H H' : Hp}
theorem LeX.tupT {K : PySem.W.Frag} (h : LeX G N H H') {a : Addr} {xs : List V} (r : TupAt K H a xs) : TupAt K H' a xs := r.elim (fun e => .inl (h a _ e (.inr id))) fun z => z.elim (fun ⟨o, e⟩ => .inr (.inl ⟨o, h a _ e (.inr id)⟩)) fun z => .inr (.inr z)
theorem LeX.rd (h : LeX G N H H') {a : Addr} {ks : List (Key × V)} (n : N a) (r : Rd H a (.dK ks)) : Rd H' a (.dK ks) := by
  rcases r with e | ⟨o, e⟩
  · exact .inl (h a _ e (.inl n))
  · exact .inr ⟨o, h a _ e (.inl n)⟩
theorem LeX.scr {K : PySem.W.Frag} (h : LeX G N H H') {a : Addr} {ns : List Int} (r : ScrAt K H a ns) : ScrAt K H' a ns := r.elim (fun ⟨o, e⟩ => .inl ⟨o, h a _ e (.inr id)⟩) .inr
mutual
theorem Rep.monoX (hN : ∀ a, N a → H a ≠ none → N' a) (hL : LeX G N H H') : ∀ {d : D} {v : V}, Rep G N H d v → Rep G N' H' d v
  | .non, _, h => h
  | .bl _, _, h => h
  | .int _, _, h => h
  | .str _, _, h => h
  | .tup ds, _, ⟨a, vs, e, q, r⟩ => ⟨a, vs, e, hL.tupT q, Reps.monoX hN hL r⟩
  | .lst ds, _, ⟨a, vs, e, n, q, r⟩ => ⟨a, vs, e, hN a n (Rd.some (.inl q)), hL a _ q (.inl n), Reps.monoX hN hL r⟩
  | .dic kvs, _, ⟨a, ks, e, n, q, r⟩ => ⟨a, ks, e, hN a n (Rd.some q), hL.rd n q, RepK.monoX hN hL r⟩
  | .ins c fs, _, ⟨a, C, dx, gs, e, m, q, r, t⟩ => ⟨a, C, dx, gs, e, m, hL a _ q (.inr t), RepF.monoX hN hL r, t⟩
  | .obj x c fs, _, ⟨e, n, C, dx, gs, m, q, r, t⟩ => ⟨e, hN x n (Rd.some (.inl q)), C, dx, gs, m, hL x _ q (.inl n), RepF.monoX hN hL r, t⟩
  | .stk _ _ _ _, _, h => h
  | .box n, _, ⟨a, e, q⟩ => ⟨a, e, q.imp fun b _ z f => hL b _ z (.inr (f.elim (fun ⟨φ, e⟩ => by subst e; exact id) fun f => f.elim (fun ⟨ob, xs, e⟩ => by subst e; exact id) fun ⟨gs, e⟩ => by subst e; exact id))⟩
  | .ty _, _, h => h
  | .cls _, _, h => h
  | .exn x dd fs, _, ⟨e, q⟩ => ⟨e, fun d ed => (q d ed).elim fun gs z => ⟨gs, hL d _ z.1 (.inr id), RepF.monoX hN hL z.2⟩⟩
  | .erv x c dd fs, _, ⟨e, ⟨C, m, q1⟩, q⟩ => ⟨e, ⟨C, m, hL x _ q1 (.inr id)⟩, fun d ed => (q d ed).elim fun gs z => ⟨gs, hL d _ z.1 (.inr id), RepF.monoX hN hL z.2⟩⟩
  | .cel x ds, _, ⟨e, n, vs, q, r⟩ => ⟨e, hN x n (Rd.some (.inl q)), vs, hL x _ q (.inl n), Reps.monoX hN hL r⟩
  | .raw _, _, h => h
  | .scr _, _, ⟨a, e, q⟩ => ⟨a, e, hL.scr q⟩
  | .clo k _, _, ⟨e, q, r⟩ => ⟨e, hL k.c _ q (.inr id), Reps.monoX hN hL r⟩
theorem Reps.monoX (hN : ∀ a, N a → H a ≠ none → N' a) (hL : LeX G N H H') : ∀ {ds : List D} {vs : List V}, Reps G N H ds vs → Reps G N' H' ds vs
  | [], _, h => h
  | _ :: _, _, ⟨w, ws, e, r, rs⟩ => ⟨w, ws, e, Rep.monoX hN hL r, Reps.monoX hN hL rs⟩
theorem RepK.monoX (hN : ∀ a, N a → H a ≠ none → N' a) (hL : LeX G N H H') : ∀ {ds : List (Key × D)} {vs : List (Key × V)}, RepK G N H ds vs → RepK G N' H' ds vs
  | [], _, h => h
  | (_, _) :: _, _, ⟨w, ws, e, r, rs⟩ => ⟨w, ws, e, Rep.monoX hN hL r, RepK.monoX hN hL rs⟩
theorem RepF.monoX (hN : ∀ a, N a → H a ≠ none → N' a) (hL : LeX G N H H') : ∀ {ds : List (Str × D)} {vs : List (Str × V)}, RepF G N H ds vs → RepF G N' H' ds vs
  | [], _, h => h
  | (_, _) :: _, _, ⟨w, ws, e, r, rs⟩ => ⟨w, ws, e, Rep.monoX hN hL r, RepF.monoX hN hL rs⟩
end
/-- a part of the heap with all that N needs -/
structure Part (G : Wd) (N : Addr → Prop) (HP H : Hp) : Prop where
  sub : ∀ a o, HP a = some o → H a = some o
  has : LeX G N H HP
theorem Part.refl {N : Addr → Prop} {H : Hp} : Part G N H H := ⟨fun _ _ e => e, fun _ _ e _ => e⟩
theorem Rep.part {HP : Hp} (p : Part G N HP H) {d : D} {v : V} (r : Rep G N H d v) : Rep G (fun a => N a ∧ HP a ≠ none) HP d v :=
  (r.monoX (fun _ n _ => n) p.has).mono (fun _ n y => ⟨n, y⟩) (Le.refl HP)
theorem Reps.part {HP : Hp} (p : Part G N HP H) {d : List D} {v : List V} (r : Reps G N H d v) : Reps G (fun a => N a ∧ HP a ≠ none) HP d v :=
  (r.monoX (fun _ n _ => n) p.has).mono (fun _ n y => ⟨n, y⟩) (Le.refl HP)
theorem RepK.part {HP : Hp} (p : Part G N HP H) {d : List (Key × D)} {v : List (Key × V)} (r : RepK G N H d v) : RepK G (fun a => N a ∧ HP a ≠ none) HP d v :=
  RepK.mono (fun _ n y => ⟨n, y⟩) (Le.refl HP) (RepK.monoX (fun _ n _ => n) p.has r)
end

/-! ### walks -/
/-- J yields what stands for ds, while a part of the heap with all that N needs stands -/
def Serves (G : Wd) (N : Addr → Prop) (J : It) (ds : List D) (HL : Hp) : Prop := ∀ HP, Part G N HP HL → ∀ i H', Same G HP H' →
  (∀ d, ds[i]? = some d → J.go i H' ∧ ∀ x H'', J.yld i H' x H'' → Same G H' H'' ∧ Rep G (fun a => N a ∧ HP a ≠ none) H'' d x) ∧ (ds[i]? = none → J.stop i H')
def PoI (G : Wd) (N : Addr → Prop) (H : Hp) (R : It → Hp → Prop) (ds : List D) : Prop := ∀ J H1, Same G H H1 → Serves G (Fr N H) J ds H1 → R J H1
def tI (G : Wd) (Wx : WX) (m : Ro → W Ex (List D)) : TI := fun σ H R => ∃ N ρ, ERel G N H σ ρ ∧ m ρ (PoI G N H R) (PoX G N Wx H σ)
/-- going over iter yields what m tells -/
structure DI (G : Wd) (X : Cx) (Wx : WX) (tg iter : Expr) (m : Ro → W Ex (List D)) : Prop where
  pi : PI X tg iter (tI G Wx m)
  mono : ∀ ρ, W.Mono (m ρ)
section
variable {G : Wd} {X : Cx} {Wx : WX} {tg : Expr}
theorem DI.imp {iter : Expr} {m : Ro → W Ex (List D)} {t : TI} (mono : ∀ ρ, W.Mono (m ρ)) (h : PI X tg iter t) (i : ∀ N ρ σ H R, ERel G N H σ ρ → m ρ (PoI G N H R) (PoX G N Wx H σ) → t σ H R) : DI G X Wx tg iter m :=
  ⟨⟨fun pins s σ H R I ⟨N, ρ, r, q⟩ => h.run pins s σ H R I (i N ρ σ H R r q)⟩, mono⟩
theorem serves_lst {K : PySem.W.Frag} {N : Addr → Prop} {H : Hp} {a : Addr} {ds : List D} {vs : List V} (n : N a) (h : H a = some (.lst vs)) (r : Reps G N H ds vs) : Serves G N (Itl K a) ds H := fun HP p i H' s => by
  have h' : SqL K H' a vs := .of (s.at (p.has a _ h (.inl n)))
  have r' := (r.part p).same s
  refine ⟨fun d e => ?_, fun e => ⟨vs, h', ?_⟩⟩
  · obtain ⟨v, e1, r1⟩ := r'.get' e
    refine ⟨⟨vs, v, h', e1⟩, fun x H'' y => ?_⟩
    obtain ⟨rfl, y⟩ := y
    have := y vs h'
    rw [e1] at this
    cases this
    exact ⟨Same.refl _, r1⟩
  · rw [r.length]; exact List.getElem?_eq_none_iff.mp e
theorem serves_tup {N : Addr → Prop} {H : Hp} {a : Addr} {ds : List D} {vs : List V} (h : TupAt G.K H a vs) (r : Reps G N H ds vs) : Serves G N (Itt G.K a) ds H := fun HP p i H' s => by
  have h' : SqT G.K H' a vs := ((Le.of s).tupT (p.has.tupT h)).sq
  have r' := (r.part p).same s
  refine ⟨fun d e => ?_, fun e => ⟨vs, h', ?_⟩⟩
  · obtain ⟨v, e1, r1⟩ := r'.get' e
    refine ⟨⟨vs, v, h', e1⟩, fun x H'' y => ?_⟩
    obtain ⟨rfl, y⟩ := y
    have := y vs h'
    rw [e1] at this
    cases this
    exact ⟨Same.refl _, r1⟩
  · rw [r.length]; exact List.getElem?_eq_none_iff.mp e
/-- range -/
def rngD (lo : Int) (n : Nat) : List D := (List.range n).map fun (k : Nat) => D.int (lo + k)
theorem serves_rng {N : Addr → Prop} {H : Hp} {lo : Int} {n : Nat} : Serves G N (Itr lo n) (rngD lo n) H := fun HP p i H' s => by
  unfold rngD
  rw [List.getElem?_map]
  by_cases h : i < n
  · rw [List.getElem?_range h]
    refine ⟨fun d e => ?_, fun e => nomatch e⟩
    cases e
    refine ⟨h, fun x H'' y => ?_⟩
    obtain ⟨y1, y2⟩ := (show H'' = H' ∧ x = .int (lo + i) from y)
    subst y1 y2
    exact ⟨Same.refl _, rfl⟩
  · have : (List.range n)[i]? = none := by rw [List.getElem?_eq_none_iff]; simpa using h
    rw [this]
    exact ⟨fun d e => (nomatch e), fun _ => Nat.le_of_not_lt h⟩
def rng1D : List D → W Ex (List D)
  | [.int j] => if -(2 ^ 62) ≤ j ∧ j < 2 ^ 62 then W.ret (rngD 0 j.toNat) else W.fail
  | _ => W.fail
theorem rng1D_mono (ds : List D) : W.Mono (rng1D ds) := by
  unfold rng1D
  split
  · exact ite_mono W.Mono.ret W.Mono.fail
  · exact W.Mono.fail
def mRng1 (m : Ro → W Ex (List D)) : Ro → W Ex (List D) := fun ρ => W.bind (m ρ) rng1D
theorem rng1_inv {ds : List D} {Q : List D → Prop} {E : Ex → Prop} (h : rng1D ds Q E) : ∃ j, ds = [.int j] ∧ (-(2 ^ 62) ≤ j ∧ j < 2 ^ 62) ∧ Q (rngD 0 j.toNat) := by
  unfold rng1D at h
  split at h
  · obtain ⟨h1, h2⟩ := ite_ret h
    exact ⟨_, rfl, h1, h2⟩
  · exact h.elim
theorem di_rng1 {a : Expr} {m : Ro → W Ex (List D)} {p pos : Pos} (Z : X.mg = G.mg) (hg : Gl X "range") (hm : G.mg "range" = none) (ha : DA G X Wx [a] m) (hs : starEach [a] X.env = [(false, eval a X.env)] := by rfl) : DI G X Wx tg (.Call (.Name "range" p) [a] [] pos) (mRng1 m) := by
  refine DI.imp (fun ρ => (ha.mono ρ).bind fun d => rng1D_mono d) (pi_range1 hg (Z ▸ hm) ha.pa hs) fun N ρ σ H R r q => ?_
  refine ha.go r q (fun x z => z) fun ds vs H1 z s1 r1 _ => ?_
  obtain ⟨j, rfl, h1, z⟩ := rng1_inv z
  obtain ⟨v, rfl, rv⟩ := r1.one_inv
  exact ⟨j, by rw [show v = .int j from rv], h1.1, h1.2, z _ H1 s1 serves_rng⟩
/-! ### targets -/
def RepB (G : Wd) (N : Addr → Prop) (H : Hp) (bs : List (Nat × D)) (ws : List (Nat × V)) : Prop := Paired (fun b w => b.1 = w.1 ∧ Rep G N H b.2 w.2) bs ws
def setV (σ : Fb.St) : List (Nat × V) → Fb.St
  | [] => σ
  | (i, v) :: r => setV (σ.set i (some v)) r
def setR (ρ : Ro) : List (Nat × D) → Ro
  | [] => ρ
  | (i, d) :: r => setR (ρ.set i (some d)) r
def setE (ρ : En) : List (Nat × D) → En
  | [] => ρ
  | (i, d) :: r => setE (ρ.set i (some (false, d))) r
theorem setV_app (σ : Fb.St) (a b : List (Nat × V)) : setV σ (a ++ b) = setV (setV σ a) b := by
  induction a generalizing σ with
  | nil => rfl
  | cons p r ih => exact ih _
/-- the target stores p of what comes, at slots among sl -/
structure DG (G : Wd) (X : Cx) (tg : Expr) (g : TG) (p : D → Option (List (Nat × D))) (sl : List Nat) : Prop where
  pg : PG X tg g
  st : ∀ N H d v bs σ Q, Rep G N H d v → p d = some bs → (∀ ws, RepB G N H bs ws → Q (setV σ ws) H) → g v σ H Q
  sl : ∀ d bs, p d = some bs → ∀ b ∈ bs, b.1 ∈ sl
structure DGs (G : Wd) (X : Cx) (tg : List Expr) (g : TGs) (p : List D → Option (List (Nat × D))) (sl : List Nat) : Prop where
  pg : PGs X tg g
  st : ∀ N H ds vs bs σ Q, Reps G N H ds vs → p ds = some bs → (∀ ws, RepB G N H bs ws → Q (setV σ ws) H) → g vs σ H Q
  sl : ∀ d bs, p d = some bs → ∀ b ∈ bs, b.1 ∈ sl
def pName (i : Nat) (d : D) : Option (List (Nat × D)) := some [(i, d)]
def pNil : List D → Option (List (Nat × D))
  | [] => some []
  | _ => none
def pCons (p : D → Option (List (Nat × D))) (q : List D → Option (List (Nat × D))) : List D → Option (List (Nat × D))
  | d :: ds => match p d, q ds with
    | some a, some b => some (a ++ b)
    | _, _ => none
  | [] => none
def pTup (n : Nat) (q : List D → Option (List (Nat × D))) : D → Option (List (Nat × D))
  | .tup ds => if ds.length = n then q ds else none
  | _ => none
theorem dg_name {i : Nat} {x : Str} {pos : Pos} (hN : X.N.Nodup) (hi : X.N[i]? = some x) (hx : Loc X.env.scope x) (hf : X.fn x = true ∨ X.env.scope.names.lookup x = some .local := by first | exact .inl rfl | exact .inr rfl | assumption) : DG G X (.Name x pos) (gName i) (pName i) [i] :=
  ⟨pg_name hN hi hx hf, fun N H d v bs σ Q r e h => by
    cases e
    exact h [(i, v)] (.cons ⟨rfl, r⟩ .nil), fun d bs e b hb => by
    cases e
    simp at hb
    simp [hb]⟩
theorem dgs_nil : DGs G X [] gNil pNil [] := by
  refine ⟨pgs_nil, fun N H ds vs bs σ Q r e h => ?_, fun d bs e b hb => ?_⟩
  · cases ds with
    | nil => cases e; exact ⟨r, h [] .nil⟩
    | cons _ _ => cases e
  · cases d with
    | nil => cases e; cases hb
    | cons _ _ => cases e
theorem paired_append {α β : Type} {P : α → β → Prop} : ∀ {a c : List α} {b d : List β}, Paired P a b → Paired P c d → Paired P (a ++ c) (b ++ d)
  | _, _, _, _, .nil, h => h
  | _, _, _, _, .cons h t, h' => .cons h (paired_append t h')
theorem dgs_cons {e : Expr} {es : List Expr} {g : TG} {gs : TGs} {p : D → Option (List (Nat × D))} {q : List D → Option (List (Nat × D))} {a b : List Nat} (h1 : DG G X e g p a) (h2 : DGs G X es gs q b)
    (hs : (assignEach (e :: es) X.env).map (·.2) = assign e X.env :: (assignEach es X.env).map (·.2) := by rfl) : DGs G X (e :: es) (gCons g gs) (pCons p q) (a ++ b) := by
  refine ⟨pgs_cons h1.pg h2.pg hs, fun N H ds vs bs σ Q r e h => ?_, fun ds bs e c hc => ?_⟩
  · cases ds with
    | nil => cases e
    | cons d ds =>
      obtain ⟨w, ws, rfl, r1, r2⟩ := r
      have e : (match p d, q ds with | some a, some b => some (a ++ b) | _, _ => none) = some bs := e
      rcases e1 : p d with _ | b1
      · rw [e1] at e; cases e
      · rcases e2 : q ds with _ | b2
        · rw [e1, e2] at e; cases e
        · rw [e1, e2] at e
          cases e
          refine ⟨w, ws, rfl, h1.st N H d w b1 σ _ r1 e1 fun ws1 h1' => ?_⟩
          refine h2.st N H ds ws b2 _ _ r2 e2 fun ws2 h2' => ?_
          rw [← setV_app]
          exact h _ (paired_append h1' h2')
  · cases ds with
    | nil => cases e
    | cons d ds =>
      have e : (match p d, q ds with | some a, some b => some (a ++ b) | _, _ => none) = some bs := e
      rcases e1 : p d with _ | b1
      · rw [e1] at e; cases e
      · rcases e2 : q ds with _ | b2
        · rw [e1, e2] at e; cases e
        · rw [e1, e2] at e
          cases e
          rcases List.mem_append.mp hc with hc | hc
          · exact List.mem_append_left _ (h1.sl _ _ e1 _ hc)
          · exact List.mem_append_right _ (h2.sl _ _ e2 _ hc)
theorem dg_tup {es : List Expr} {k n : Nat} {gs : TGs} {q : List D → Option (List (Nat × D))} {a : List Nat} {pos : Pos} (Z : X.K = G.K) (hc : X.calm = true) (h : DGs G X es gs q a) (hn : (assignEach es X.env).length = n := by rfl) (hst : (assignEach es X.env).findIdx? (·.1) = none := by rfl) :
    DG G X (.Tuple es k pos) (gTup G.K n gs) (pTup n q) a := by
  rw [← Z]
  refine ⟨pg_tup hc h.pg hn hst, fun N H d v bs σ Q r e hQ => ?_, fun d bs e b hb => ?_⟩
  · cases d <;> first | (cases e; done) | skip
    rename_i ds
    have e : (if ds.length = n then q ds else none) = some bs := e
    by_cases hl : ds.length = n
    · rw [if_pos hl] at e
      obtain ⟨t, vs, ev, ht, rs⟩ := r
      exact ⟨t, vs, ev, Z ▸ ht.sq, rs.length.trans hl, h.st N H ds vs bs σ Q rs e hQ⟩
    · rw [if_neg hl] at e; cases e
  · cases d <;> first | (cases e; done) | skip
    rename_i ds
    have e : (if ds.length = n then q ds else none) = some bs := e
    by_cases hl : ds.length = n
    · rw [if_pos hl] at e; exact h.sl _ _ e _ hb
    · rw [if_neg hl] at e; cases e

/-! ### for -/
theorem setV_len : ∀ {bs : List (Nat × V)} {ρ : Fb.St}, (setV ρ bs).length = ρ.length
  | [], _ => rfl
  | (i, d) :: r, ρ => (setV_len (bs := r)).trans (List.length_set ..)
/-- the items of a walk are stored -/
theorem SRel.setE {H0 H : Hp} {N0 N : Addr → Prop} (hN : ∀ a, N a → N0 a ∧ H0 a ≠ none) : ∀ {bs : List (Nat × D)} {ws : List (Nat × V)} {σ : Fb.St} {ρ : En}, SRel G H0 N0 σ H ρ → RepB G N H bs ws → SRel G H0 N0 (setV σ ws) H (setE ρ bs)
  | _, _, _, _, x, .nil => x
  | _, _, σ, ρ, x, .cons (a := b) (b := w) h t => by
    obtain ⟨i, d⟩ := b
    obtain ⟨j, v⟩ := w
    obtain ⟨e, r⟩ := h
    obtain rfl : i = j := e
    refine SRel.setE hN (bs := _) (ws := _) (σ := σ.set i (some v)) (ρ := ρ.set i (some (false, d))) ?_ t
    obtain ⟨S, o⟩ := x.own
    refine ⟨x.same, by rw [List.length_set, List.length_set]; exact x.len, _, o.setS x.len (r.mono (fun a n _ => ⟨.inl (hN a n).1, fun j z => (hN a n).2 (o.new j a z).1⟩) (Le.refl H))⟩
def forN (p : D → Option (List (Nat × D))) (b : En → WS) : List D → En → WS
  | [], ρ => W.ret (.nx, ρ)
  | d :: ds, ρ => match p d with
    | none => W.fail
    | some bs => W.bind (b (setE ρ bs)) fun q => match q with
      | (.nx, ρ') => forN p b ds ρ'
      | (.ct, ρ') => forN p b ds ρ'
      | (.bk, ρ') => W.ret (.nx, ρ')
      | (.rt r, ρ') => W.ret (.rt r, ρ')
def mFor (fz : List Nat) (m : Ro → W Ex (List D)) (p : D → Option (List (Nat × D))) (b : En → WS) : En → WS := fun ρ => W.bind (up ρ (m (see fz ρ))) fun ds => forN p b ds (frz fz ρ)
theorem forN_mono {p : D → Option (List (Nat × D))} {b : En → WS} (hb : ∀ ρ, W.Mono (b ρ)) : ∀ ds ρ, W.Mono (forN p b ds ρ)
  | [], _ => W.Mono.ret
  | d :: ds, ρ => by
    unfold forN
    split
    · exact W.Mono.fail
    · refine (hb _).bind fun q => ?_
      obtain ⟨f, ρ'⟩ := q
      cases f with
      | nx => exact forN_mono hb ds ρ'
      | ct => exact forN_mono hb ds ρ'
      | bk => exact W.Mono.ret
      | rt r => exact W.Mono.ret
/-- the heap without what is held alone -/
noncomputable def hpart (S : Nat ⊕ Nat → Option Addr) (H : Hp) : Hp := fun a => open Classical in if ∃ j, S j = some a then none else H a
theorem hpart_in {S : Nat ⊕ Nat → Option Addr} {H : Hp} {a : Addr} (h : ∀ j, S j ≠ some a) : hpart S H a = H a := by
  unfold hpart
  rw [if_neg]
  rintro ⟨j, e⟩
  exact h j e
theorem hpart_out {S : Nat ⊕ Nat → Option Addr} {H : Hp} {a : Addr} {j : Nat ⊕ Nat} (h : S j = some a) : hpart S H a = none := by
  unfold hpart
  rw [if_pos ⟨j, h⟩]
theorem hpart_some {S : Nat ⊕ Nat → Option Addr} {H : Hp} {a : Addr} {o : HO} (h : hpart S H a = some o) : H a = some o ∧ ∀ j, S j ≠ some a := by
  by_cases c : ∃ j, S j = some a
  · obtain ⟨j, e⟩ := c
    rw [hpart_out e] at h; cases h
  · have c' : ∀ j, S j ≠ some a := fun j e => c ⟨j, e⟩
    exact ⟨by rw [hpart_in c'] at h; exact h, c'⟩
section
variable {H0 H : Hp} {N0 : Addr → Prop} {S : Nat ⊕ Nat → Option Addr} {σ : Fb.St} {ρ : En}
/-- all but what is held alone stands still from now on -/
theorem OwnOk.keep (o : OwnOk G H0 N0 S σ H ρ) {a : Addr} {u : HO} (e : H a = some u) (n : ¬ isM G u) : hpart S H a = some u := by
  rw [hpart_in fun j z => by
    obtain ⟨u', e', k⟩ := o.kind j a z
    rw [e] at e'
    cases e'
    exact n k]
  exact e
theorem OwnOk.tabs (o : OwnOk G H0 N0 S σ H ρ) (t : TabsG G H) : TabsG G (hpart S H) := fun p hp => by
  obtain ⟨ps, h1, h2, h3⟩ := t p hp
  exact ⟨ps, o.keep h1 id, h2, fun pos cv hc => let ⟨c, e, h⟩ := h3 pos cv hc; ⟨c, e, o.keep h id⟩⟩
theorem SRel.still (h0 : Same1 G H0 H) (hl : ρ.length = σ.length) (o : OwnOk G H0 N0 S σ H ρ) : SRel G (hpart S H) (Fr N0 H0) σ H ρ := by
  have sub : ∀ a, Out N0 H0 S a → Out (Fr N0 H0) (hpart S H) S a := fun a h => ⟨.inl h.1, h.2⟩
  have s1 : Same1 G (hpart S H) H := ⟨.of fun a u e => (hpart_some e).1, h0.tb⟩
  exact ⟨s1, hl, S, fun i a e => ⟨hpart_out e, (o.new i a e).2⟩, o.kind, o.inj, fun i d e => let ⟨v, e1, r⟩ := o.shr i d e; ⟨v, e1, r.sub sub⟩, fun i d e => let ⟨a, e1, e2, r⟩ := o.own i d e; ⟨a, e1, e2, r.mono (fun b z _ => sub b z) (Same.refl H)⟩, o.nst⟩
theorem hpart_h0 (h0 : Same1 G H0 H) (o : OwnOk G H0 N0 S σ H ρ) : Same G H0 (hpart S H) := ⟨fun a u e n => by
  rw [hpart_in fun j z => by rw [(o.new j a z).1] at e; cases e]
  exact h0.at e n, fun a e => by
  by_cases c : ∃ j, S j = some a
  · obtain ⟨j, z⟩ := c; exact (o.new j a z).1
  · rw [hpart_in fun j z => c ⟨j, z⟩] at e; exact h0.free e, fun _ => o.tabs h0.tb⟩
theorem Fr.back {HP : Hp} (s : Same G H0 HP) {a : Addr} (h : Fr (Fr N0 H0) HP a) : Fr N0 H0 a := h.elim id fun z => .inr (s.free z)
theorem SRel.back {HP H' : Hp} {σ' : Fb.St} {ρ' : En} (s : Same G H0 HP) (x : SRel G HP (Fr N0 H0) σ' H' ρ') : SRel G H0 N0 σ' H' ρ' := by
  obtain ⟨S', o⟩ := x.own
  have sub : ∀ a, Out (Fr N0 H0) HP S' a → Out N0 H0 S' a := fun a h => ⟨h.1.back s, h.2⟩
  exact ⟨s.trans1 x.same, x.len, S', fun i a e => ⟨s.free (o.new i a e).1, (o.new i a e).2⟩, o.kind, o.inj, fun i d e => let ⟨v, e1, r⟩ := o.shr i d e; ⟨v, e1, r.sub sub⟩, fun i d e => let ⟨a, e1, e2, r⟩ := o.own i d e; ⟨a, e1, e2, r.mono (fun b z _ => sub b z) (Same.refl H')⟩, o.nst⟩
theorem PoS.back {HP : Hp} {D' : Ends} (s : Same G H0 HP) : ∀ {p : Fl × En}, PoS G H0 N0 D' p → PoS G HP (Fr N0 H0) D' p
  | (.nx, _), h => fun σ H x => h σ H (x.back s)
  | (.bk, _), h => fun σ H x => h σ H (x.back s)
  | (.ct, _), h => fun σ H x => h σ H (x.back s)
  | (.rt r, _), h => fun v H s' r' f x => h v H (s.trans s') (r'.sub fun _ z => z.back s) (fun w => by
    obtain ⟨a, e1, e2, en, e3⟩ := f w
    exact ⟨a, e1, s.free e2, en, e3.mono (fun b z _ => ⟨z.1.back s, z.2⟩) (Same.refl H)⟩) (let ⟨σ, x⟩ := x; ⟨σ, x.back s⟩)
theorem PoXS.back {HP : Hp} {p : Ex × En} (s : Same G H0 HP) (h : PoXS G H0 N0 Wx p) : PoXS G HP (Fr N0 H0) Wx p := fun σ c dd H x r => h σ c dd H (x.back s) (r.mono fun _ z => z.back s)
end
theorem ds_for {iter : Expr} {body : List Stmt} {m : Ro → W Ex (List D)} {b : En → WS} {g : TG} {p : D → Option (List (Nat × D))} {sl : List Nat} {pos : Pos} (fz : List Nat) (hp : PassesOwn (model X.prog X.w) X.A X.env X.xe) (hc : X.calm = true) (hi : DI G X Wx tg iter m) (hg : DG G X tg g p sl) (hb : DSs G X Wx body b)
    (hs : ∀ x, foldedSetIterable iter X.env x = pure x := by intro _; rfl) : DS G X Wx (.For tg iter body [] pos) (mFor fz m p b) := by
  refine DS.imp (fun ρ => (Mono.up (hi.mono _)).bind fun ds => forN_mono hb.mono ds _) (ps_for hp hc hi.pi hg.pg hb.ps hs) fun H0 N0 ρ σ H D' r q => ?_
  obtain ⟨S, o⟩ := r.own
  refine ⟨_, _, o.sees r.same.tb fz, (hi.mono _).run (fun ds z J H1 s1 sv => ?_) (fun x z => ?_) q⟩
  · have o1 : OwnOk G H0 N0 (cut fz S) σ H1 (frz fz ρ) := (o.frz fz).same s1
    have h01 := r.same.trans s1
    have x1 := SRel.still h01 (frz_len.trans r.len) o1
    have hp0 := hpart_h0 h01 o1
    have pt : Part G (Fr (Out N0 H0 (cut fz S)) H) (hpart (cut fz S) H1) H1 := ⟨fun a u e => (hpart_some e).1, fun a u e c => by
      by_cases k : ∃ j, cut fz S j = some a
      · obtain ⟨j, k⟩ := k
        obtain ⟨u', e', k'⟩ := o1.kind j a k
        rw [e] at e'
        cases e'
        rcases c with c | c
        · rcases c with c | c
          · exact absurd k (c.2 j)
          · exact absurd c (o.new j a (cut_some k).1).2
        · exact absurd k' c
      · rw [hpart_in fun j k' => k ⟨j, k'⟩]; exact e⟩
    generalize hpart (cut fz S) H1 = HP at x1 hp0 pt
    have z' : forN p b ds (frz fz ρ) (PoS G HP (Fr N0 H0) D') (PoXS G HP (Fr N0 H0) Wx) := (forN_mono hb.mono ds _).run (fun _ y => PoS.back hp0 y) (fun _ y => PoXS.back hp0 y) z
    refine ⟨fun i k σ H => k = ds.length - i ∧ i ≤ ds.length ∧ ∃ ρ, SRel G HP (Fr N0 H0) σ H ρ ∧ forN p b (ds.drop i) ρ (PoS G HP (Fr N0 H0) D') (PoXS G HP (Fr N0 H0) Wx), ⟨_, rfl, Nat.zero_le _, _, x1, z'⟩, ?_⟩
    rintro i k σ2 H2 ⟨rfl, hi', ρ2, x2, z2⟩
    obtain ⟨sv1, sv2⟩ := sv HP pt i H2 x2.same
    by_cases hlt : i < ds.length
    · obtain ⟨d, hd⟩ : ∃ d, ds[i]? = some d := ⟨ds[i], by simp [hlt]⟩
      have hdrop : ds.drop i = d :: ds.drop (i + 1) := by
        rw [List.drop_eq_getElem_cons hlt]
        rw [List.getElem?_eq_getElem hlt] at hd
        cases hd
        rfl
      rw [hdrop] at z2
      obtain ⟨go, yl⟩ := sv1 d hd
      refine .inr ⟨go, fun σ' H' => ∃ ρ, SRel G HP (Fr N0 H0) σ' H' ρ ∧ forN p b (ds.drop (i + 1)) ρ (PoS G HP (Fr N0 H0) D') (PoXS G HP (Fr N0 H0) Wx), fun σ' H' w => ⟨ds.length - (i + 1), by omega, rfl, hlt, w⟩, fun x H' y => ?_⟩
      obtain ⟨s3, r3⟩ := yl x H' y
      unfold forN at z2
      rcases ep : p d with _ | bs
      · rw [ep] at z2; exact z2.elim
      · rw [ep] at z2
        refine hg.st _ H' d x bs σ2 _ r3 ep fun ws rb => ?_
        have x3 := SRel.setE (N := fun a => Fr (Out N0 H0 (cut fz S)) H a ∧ HP a ≠ none) (fun a h => ⟨h.1.out r.same, h.2⟩) (x2.step s3) rb
        refine ⟨HP, Fr N0 H0, setE ρ2 bs, x3, (hb.mono _).run (fun q y => ?_) (fun _ y => y) z2⟩
        obtain ⟨f, ρ'⟩ := q
        cases f with
        | nx => exact fun σ' H' r' => ⟨ρ', r', y⟩
        | ct => exact fun σ' H' r' => ⟨ρ', r', y⟩
        | bk => exact fun σ' H' r' => y σ' H' r'
        | rt r => exact y
    · have e : i = ds.length := by omega
      subst e
      have hn : ds[ds.length]? = none := by simp
      rw [List.drop_length] at z2
      exact .inl ⟨sv2 hn, z2 σ2 H2 x2⟩
  · intro c dd H' s1 r1
    exact z σ c dd H' (r.step s1) (r1.mono fun _ y => y.out r.same)
end
end Fb
end

section
set_option Elab.async false
set_option linter.all false
set_option maxRecDepth 100000
set_option maxHeartbeats 4000000
/-! List blocks and dict blocks. -/
namespace Fb
open PySem PySem.Spec PyProof.Rows L2

def wipeR (ρ : Ro) : List Nat → Ro
  | [] => ρ
  | v :: vs => (wipeR ρ vs).set v none
theorem wipe_get {σ : Fb.St} {j : Nat} : ∀ {vs : List Nat}, (wipe σ vs)[j]? = if j ∈ vs then (if j < σ.length then some none else none) else σ[j]?
  | [] => by simp [wipe]
  | v :: vs => by
    unfold wipe
    by_cases h : v = j
    · subst h
      rw [List.getElem?_set_self']
      by_cases hl : v < σ.length
      · have : v < (wipe σ vs).length := by rw [wipe_length]; exact hl
        rw [List.getElem?_eq_getElem this]
        simp [hl]
      · have : (wipe σ vs)[v]? = none := by rw [List.getElem?_eq_none_iff, wipe_length]; omega
        rw [this]
        simp [hl]
    · rw [List.getElem?_set_ne h, wipe_get]
      simp [Ne.symm h]
theorem wipeR_some {ρ : Ro} {j : Nat} {d : D} : ∀ {vs : List Nat}, (wipeR ρ vs)[j]? = some (some d) → ρ[j]? = some (some d) ∧ j ∉ vs
  | [], h => ⟨h, by simp⟩
  | v :: vs, h => by
    unfold wipeR at h
    by_cases hv : v = j
    · subst hv
      rw [List.getElem?_set_self'] at h
      rcases e : (wipeR ρ vs)[v]? with _ | o <;> rw [e] at h <;> cases h
    · rw [List.getElem?_set_ne hv] at h
      obtain ⟨h1, h2⟩ := wipeR_some h
      exact ⟨h1, by simp [Ne.symm hv, h2]⟩
theorem setV_get {σ : Fb.St} {j : Nat} : ∀ {ws : List (Nat × V)}, (∀ w ∈ ws, w.1 ≠ j) → (setV σ ws)[j]? = σ[j]?
  | [], _ => rfl
  | (i, v) :: r, h => by
    unfold setV
    rw [setV_get (fun w hw => h w (List.mem_cons_of_mem _ hw)), List.getElem?_set_ne (h (i, v) List.mem_cons_self)]
theorem wipe_setV {σ : Fb.St} {vs : List Nat} {ws : List (Nat × V)} (h : ∀ w ∈ ws, w.1 ∈ vs) : wipe (setV (wipe σ vs) ws) vs = wipe σ vs := by
  apply List.ext_getElem?
  intro j
  rw [wipe_get, wipe_get]
  by_cases hj : j ∈ vs
  · rw [if_pos hj, if_pos hj, setV_len, wipe_length]
  · rw [if_neg hj, if_neg hj, setV_get (fun w hw e => hj (by rw [← e]; exact h w hw)), wipe_get, if_neg hj]
theorem RepB.slots {G : Wd} {N : Addr → Prop} {H : Hp} {sl : List Nat} : ∀ {bs : List (Nat × D)} {ws : List (Nat × V)}, RepB G N H bs ws → (∀ b ∈ bs, b.1 ∈ sl) → ∀ w ∈ ws, w.1 ∈ sl := by
  intro bs ws h
  induction h with
  | nil => intro _ w hw; cases hw
  | cons h t ih =>
    intro hb w' hw
    rcases List.mem_cons.mp hw with e | hw
    · subst e; rw [← h.1]; exact hb _ List.mem_cons_self
    · exact ih (fun b' h' => hb b' (List.mem_cons_of_mem _ h')) w' hw
section
variable {G : Wd} {N N' : Addr → Prop} {H H' : Hp}
theorem ERel.wipe {σ : Fb.St} {ρ : Ro} (r : ERel G N H σ ρ) (vs : List Nat) : ERel G N H (L2.wipe σ vs) (wipeR ρ vs) := ⟨r.tab, fun i d e => by
  obtain ⟨e, h⟩ := wipeR_some e
  obtain ⟨v, e1, r1⟩ := r.get i d e
  exact ⟨v, by rw [wipe_get, if_neg h]; exact e1, r1⟩⟩
theorem ERel.setR {bs : List (Nat × D)} {ws : List (Nat × V)} {σ : Fb.St} {ρ : Ro} (hl : ∀ b ∈ bs, b.1 < σ.length) (x : ERel G N H σ ρ) (h : RepB G N H bs ws) : ERel G N H (setV σ ws) (Fb.setR ρ bs) := by
  induction h generalizing σ ρ with
  | nil => exact x
  | @cons b w _ _ h t ih =>
    obtain ⟨i, d⟩ := b
    obtain ⟨j, v⟩ := w
    obtain ⟨e, r⟩ := h
    obtain rfl : i = j := e
    refine ih (σ := σ.set i (some v)) (ρ := ρ.set i (some d)) (fun b hb => by rw [List.length_set]; exact hl b (List.mem_cons_of_mem _ hb)) ⟨x.tab, fun k d' e => ?_⟩
    by_cases hk : i = k
    · subst hk
      have hi : i < σ.length := hl (i, d) List.mem_cons_self
      rw [List.getElem?_set_self'] at e
      rcases e2 : ρ[i]? with _ | o
      · rw [e2] at e; cases e
      · rw [e2] at e
        cases e
        exact ⟨v, by rw [List.getElem?_set_self hi], r⟩
    · rw [List.getElem?_set_ne hk] at e
      obtain ⟨v', e1, r1⟩ := x.get k d' e
      exact ⟨v', by rw [List.getElem?_set_ne hk]; exact e1, r1⟩
theorem ERel.mono {σ : Fb.St} {ρ : Ro} (hN : ∀ a, N a → H a ≠ none → N' a) (s : Same G H H') (r : ERel G N H σ ρ) : ERel G N' H' σ ρ := ⟨s.tab r.tab, fun i d e =>
  let ⟨v, e1, r1⟩ := r.get i d e
  ⟨v, e1, r1.mono hN (Le.of s)⟩⟩
theorem RepB.imp {bs : List (Nat × D)} {ws : List (Nat × V)} (f : ∀ d v, Rep G N H d v → Rep G N' H' d v) (h : RepB G N H bs ws) : RepB G N' H' bs ws := by
  induction h with
  | nil => exact .nil
  | cons h t ih => exact .cons ⟨h.1, f _ _ h.2⟩ ih
end

abbrev WxF : WX := fun _ _ _ _ => False
section
variable {G : Wd} {X : Cx} {Wx : WX}
/-- a block's tests -/
structure DTs (G : Wd) (X : Cx) (Wx : WX) (es : List Expr) (m : Ro → W Ex Bool) : Prop where
  pt : PTs X es (tT G Wx m)
  mono : ∀ ρ, W.Mono (m ρ)
def mYes : Ro → W Ex Bool := fun _ => W.ret true
theorem dts_nil : DTs G X Wx [] mYes := ⟨⟨fun pins s σ H Q I ⟨N, ρ, r, q⟩ => pts_nil.run pins s σ H Q I (q H (Same.refl H))⟩, fun _ => W.Mono.ret⟩
theorem dts_one {c : Expr} {m : Ro → W Ex Bool} (h : DT G X Wx c m) : DTs G X Wx [c] m := ⟨pts_one h.pt, h.mono⟩

def lcN (p : D → Option (List (Nat × D))) (c : Ro → W Ex Bool) (e : Ro → W Ex D) (ρ : Ro) : List D → W Ex (List D)
  | [] => W.ret []
  | d :: ds => match p d with
    | none => W.fail
    | some bs => W.bind (W.calm (c (setR ρ bs))) fun b => if b = true then W.bind (W.calm (e (setR ρ bs))) fun y => W.bind (lcN p c e ρ ds) fun ys => W.ret (y :: ys) else lcN p c e ρ ds
def mLc (m : Ro → W Ex (List D)) (vs : List Nat) (p : D → Option (List (Nat × D))) (c : Ro → W Ex Bool) (e : Ro → W Ex D) : Ro → W Ex (Bool × D) := fun ρ =>
  W.bind (m ρ) fun ds => szd ds (W.bind (lcN p c e (wipeR ρ vs) ds) fun ys => W.ret (true, .lst ys))
theorem lcN_mono {p : D → Option (List (Nat × D))} {c : Ro → W Ex Bool} {e : Ro → W Ex D} (hc : ∀ ρ, W.Mono (c ρ)) (he : ∀ ρ, W.Mono (e ρ)) (ρ : Ro) : ∀ ds, W.Mono (lcN p c e ρ ds)
  | [] => W.Mono.ret
  | d :: ds => by
    unfold lcN
    split
    · exact W.Mono.fail
    · exact (hc _).calm.bind fun b => ite_mono ((he _).calm.bind fun y => (lcN_mono hc he ρ ds).bind fun ys => W.Mono.ret) (lcN_mono hc he ρ ds)
theorem mLc_mono {m : Ro → W Ex (List D)} {vs : List Nat} {p : D → Option (List (Nat × D))} {c : Ro → W Ex Bool} {e : Ro → W Ex D} (hm : ∀ ρ, W.Mono (m ρ)) (hc : ∀ ρ, W.Mono (c ρ)) (he : ∀ ρ, W.Mono (e ρ)) (ρ : Ro) : W.Mono (mLc m vs p c e ρ) :=
  (hm ρ).bind fun ds => szd_mono ((lcN_mono hc he _ ds).bind fun _ => W.Mono.ret)
theorem drop_cons {α : Type} {l : List α} {i : Nat} {d : α} (hd : l[i]? = some d) : l.drop i = d :: l.drop (i + 1) := by
  have hlt := (List.getElem?_eq_some_iff.mp hd).1
  rw [List.drop_eq_getElem_cons hlt]
  rw [List.getElem?_eq_getElem hlt] at hd
  cases hd
  rfl
/-- the new list grows: what lies apart from it stays -/
theorem LeX.upd {N : Addr → Prop} {H : Hp} {a : Addr} {u v : HO} (h : H a = some u) (k : isM G u) (n : ¬ N a) : LeX G N H (L2.upd H a v) := fun b o e c => by
  by_cases hb : b = a
  · subst hb
    rw [h] at e
    cases e
    rcases c with c | c
    · exact absurd c n
    · exact absurd k c
  · rw [upd_ne hb]; exact e
/-- no table, no code object -/
def NoT (a : Addr) (u : HO) : Prop := (∀ ps, u ≠ .tbl ps) ∧ ∀ q, u ≠ LamX.CodeO a q
theorem isM_no {G : Wd} {a : Addr} {u : HO} (h : isM G u) : NoT a u := by
  cases u with
  | lst _ => exact ⟨fun _ z => (nomatch z), fun _ z => by unfold LamX.CodeO at z; exact nomatch z⟩
  | dK _ => exact ⟨fun _ z => (nomatch z), fun _ z => by unfold LamX.CodeO at z; exact nomatch z⟩
  | ins _ _ _ => exact ⟨fun _ z => (nomatch z), fun _ z => by unfold LamX.CodeO at z; exact nomatch z⟩
  | _ => exact h.elim
theorem lst_no {a : Addr} {xs : List V} : NoT a (.lst xs) := ⟨fun _ z => (nomatch z), fun _ z => by unfold LamX.CodeO at z; exact nomatch z⟩
theorem heap_at (a : Addr) (its : List Value) (n : Nat) : ∃ h : Heap, h.get? a = some { cls := .type "list", data := .seq its.toArray n } := by
  refine ⟨⟨Array.replicate (a + 1) { cls := .type "list", data := .seq its.toArray n }, {}⟩, ?_⟩
  unfold Heap.get?
  have : (Array.replicate (a + 1) ({ cls := .type "list", data := .seq its.toArray n } : Obj))[a]? = some { cls := .type "list", data := .seq its.toArray n } := by
    rw [Array.getElem?_replicate, if_pos (Nat.lt_succ_self a)]
  rw [this]
theorem heap_atO (a : Addr) (cls : Value) (dd : Option Addr) : ∃ h : Heap, h.get? a = some { cls := cls, dict := dd, data := .fields #[] } := by
  refine ⟨⟨Array.replicate (a + 1) { cls := cls, dict := dd, data := .fields #[] }, {}⟩, ?_⟩
  unfold Heap.get?
  have : (Array.replicate (a + 1) ({ cls := cls, dict := dd, data := .fields #[] } : Obj))[a]? = some { cls := cls, dict := dd, data := .fields #[] } := by
    rw [Array.getElem?_replicate, if_pos (Nat.lt_succ_self a)]
  rw [this]
theorem ext_no {a : Addr} {φ : Heap → Prop} (its : List Value) (n : Nat) (h : ∀ h : Heap, h.get? a = some { cls := .type "list", data := .seq its.toArray n } → φ h) : NoT a (.ext φ) := ⟨fun _ z => (nomatch z), fun q z => by
  unfold LamX.CodeO at z
  obtain ⟨hp, e⟩ := heap_at a its n
  injection z with z
  have := h hp e
  rw [z] at this
  obtain ⟨oc, vs, t, e1, e2, _⟩ := this
  rw [e] at e1
  cases e1
  cases e2⟩
theorem boxA_no {a b : Addr} : NoT a (.ext (boxA a b)) := ext_no [.ref b, .int 0 default] 0 fun h e => ⟨0, _, _, .cons rfl (.cons ⟨_, rfl⟩ .nil), e⟩
theorem boxB_no {b : Addr} : NoT b (.ext (boxB b)) := ext_no [] 0 fun h e => ⟨[], _, _, Nat.zero_le _, .nil, e⟩
theorem tabs_upd {H' : Hp} {a : Addr} {v : HO} (t : TabsG G H') (k : H' a = none ∨ ∃ u, H' a = some u ∧ NoT a u) : TabsG G (L2.upd H' a v) := fun p hp => by
  have st : ∀ b u, H' b = some u → (NoT b u → False) → L2.upd H' a v b = some u := fun b u e n => by
    rw [upd_ne fun z => ?_]
    · exact e
    · subst z
      rcases k with k | ⟨u', e', k⟩
      · rw [k] at e; cases e
      · rw [e'] at e; cases e; exact n k
  obtain ⟨ps, h1, h2, h3⟩ := t p hp
  exact ⟨ps, st _ _ h1 fun n => n.1 _ rfl, h2, fun pos cv hc => let ⟨c, e, h⟩ := h3 pos cv hc; ⟨c, e, st _ _ h fun n => n.2 _ rfl⟩⟩
theorem Same.updN {H H' : Hp} {a : Addr} {v : HO} (s : Same G H H') (h : H a = none) (k : H' a = none ∨ ∃ u, H' a = some u ∧ isM G u := by first | exact .inl (by assumption) | exact .inr ⟨_, by assumption, trivial⟩) : Same G H (L2.upd H' a v) := ⟨fun b o e n => by
  rw [upd_ne (ne_of_none e h)]; exact s.at e n, fun b e => by
  by_cases c : b = a
  · subst c; exact h
  · rw [upd_ne c] at e; exact s.free e, fun t => tabs_upd (s.tab t) (k.imp id fun ⟨u, e, h⟩ => ⟨u, e, isM_no h⟩)⟩
theorem lc_tLc {m : Ro → W Ex (List D)} {g : TG} {p : D → Option (List (Nat × D))} {sl vs : List Nat} {c : Ro → W Ex Bool} {e : Ro → W Ex D} {tg : Expr} {σ : Fb.St} {H : Hp} {Q : VK} {X' : Cx}
    (hm : ∀ ρ, W.Mono (m ρ)) (hcm : ∀ ρ, W.Mono (c ρ)) (hem : ∀ ρ, W.Mono (e ρ)) (hg : DG G X' tg g p sl) (hsl : ∀ i ∈ sl, i ∈ vs ∧ i < σ.length) (h : tR G Wx (mLc m vs p c e) σ H Q) : tLc (tI G Wx m) g (tT G WxF c) (tE G WxF e) vs σ H Q := by
  obtain ⟨N, ρ, rr, q⟩ := h
  refine ⟨N, ρ, rr, (hm ρ).run (fun ds z J H1 s1 sv D hD => ?_) (fun _ z => z) q⟩
  obtain ⟨hz, z⟩ := ite_ret z
  have hDH : H D = none := s1.free hD
  refine ⟨fun i k H' => k = ds.length - i ∧ i ≤ ds.length ∧ ∃ acc ys, Same G H1 H' ∧ H' D = some (.lst acc) ∧ Reps G (fun a => Fr N H a ∧ a ≠ D) H' ys acc ∧ acc.length ≤ i ∧ lcN p c e (wipeR ρ vs) (ds.drop i) (fun zs => PoR G N H Q (true, .lst (ys ++ zs))) (PoX G N Wx H σ), ⟨_, rfl, Nat.zero_le _, [], [], Same.updN (Same.refl H1) hD, upd_same, rfl, Nat.le_refl _, z⟩, ?_⟩
  rintro i k H2 ⟨rfl, hi, acc, ys, s2, hacc, ra, hl, z2⟩
  obtain ⟨sv1, sv2⟩ := sv H1 Part.refl i H2 s2
  by_cases hlt : i < ds.length
  · obtain ⟨d, hd⟩ : ∃ d, ds[i]? = some d := ⟨ds[i], by simp [hlt]⟩
    rw [drop_cons hd] at z2
    obtain ⟨go, yl⟩ := sv1 d hd
    refine .inr ⟨go, fun H' => ∃ acc ys, Same G H1 H' ∧ H' D = some (.lst acc) ∧ Reps G (fun a => Fr N H a ∧ a ≠ D) H' ys acc ∧ acc.length ≤ i + 1 ∧ lcN p c e (wipeR ρ vs) (ds.drop (i + 1)) (fun zs => PoR G N H Q (true, .lst (ys ++ zs))) (PoX G N Wx H σ),
      fun H' w => ⟨ds.length - (i + 1), by omega, rfl, hlt, w⟩, fun x H3 y => ?_⟩
    obtain ⟨s3, r3⟩ := yl x H3 y
    unfold lcN at z2
    rcases ep : p d with _ | bs
    · rw [ep] at z2; exact z2.elim
    · rw [ep] at z2
      refine hg.st _ H3 d x bs _ _ r3 ep fun ws rb => ?_
      have hbs := hg.sl d bs ep
      have rb' : RepB G (fun a => Fr N H a ∧ a ≠ D) H3 bs ws := rb.imp fun d v r => r.sub fun a n => ⟨n.1, fun z => n.2 (z ▸ hD)⟩
      have er : ERel G (fun a => Fr N H a ∧ a ≠ D) H3 (setV (wipe σ vs) ws) (setR (wipeR ρ vs) bs) := by
        refine ERel.setR (fun b hb => by rw [wipe_length]; exact (hsl _ (hbs b hb)).2) ?_ rb'
        exact (rr.mono (N' := fun a => Fr N H a ∧ a ≠ D) (fun a n y => ⟨.inl n, fun z => y (z ▸ hDH)⟩) ((s1.trans s2).trans s3)).wipe vs
      refine ⟨wipe_setV fun w hw => (hsl _ (rb.slots hbs w hw)).1, _, _, er, (hcm _).run (fun b z H4 s4 => ?_) (fun _ z => z.elim) z2⟩
      have hD4 : H4 D = some (.lst acc) := s4.at (s3.at hacc)
      cases b with
      | false =>
        simp only [Bool.false_eq_true, if_false]
        exact ⟨acc, ys, (s2.trans s3).trans s4, hD4, ra.same (s3.trans s4), Nat.le_succ_of_le hl, z⟩
      | true =>
        simp only [if_true]
        refine ⟨_, _, er.same s4, (hem _).run (fun d' z v H5 s5 r5 => ?_) (fun _ z => z.elim) (show W.calm _ _ (PoX G N Wx H σ) from z)⟩
        have hD5 : H5 D = some (.lst acc) := s5.at hD4
        refine ⟨acc, hD5, by omega, acc ++ [v], ys ++ [d'], Same.updN (((s2.trans s3).trans s4).trans s5) hD (.inr ⟨_, hD5, trivial⟩), upd_same, ?_, by simp; omega, ?_⟩
        · have ra5 : Reps G (fun a => Fr N H a ∧ a ≠ D) H5 (ys ++ [d']) (acc ++ [v]) := by
            refine Reps.app (ra.same ((s3.trans s4).trans s5)) (.one (r5.sub fun a n => ?_))
            rcases n with n | n
            · exact n
            · exact ⟨.inr ((((s1.trans s2).trans s3).trans s4).free n), fun z => by rw [z, hD4] at n; cases n⟩
          exact ra5.monoX (fun _ n _ => n) (LeX.upd hD5 trivial fun n => n.2 rfl)
        · exact (lcN_mono hcm hem _ _).run (fun zs y => by rw [List.append_assoc]; exact y) (fun _ y => y) z
  · have ei : i = ds.length := by omega
    subst ei
    have hn : ds[ds.length]? = none := by simp
    rw [List.drop_length] at z2
    have z2 : PoR G N H Q (true, .lst (ys ++ [])) := z2
    rw [List.append_nil] at z2
    exact .inl ⟨sv2 hn, z2 _ H2 (s1.trans s2) ⟨D, acc, rfl, .inr hDH, hacc, ra.sub fun _ n => n.1⟩ fun _ => ⟨D, rfl, hDH, rfl, acc, hacc, ra⟩⟩
theorem own_lt {X : Cx} {own : List (Str × Nat)} {scope : Scope} {sl : List Nat} {σ : Fb.St} (hl : σ.length = X.N.length) (ok : BlkOk X.N X.env.scope scope own) (hsl : ∀ i ∈ sl, i ∈ own.map (·.2)) : ∀ i ∈ sl, i ∈ own.map (·.2) ∧ i < σ.length := fun i hi => by
  have h := hsl i hi
  refine ⟨h, ?_⟩
  obtain ⟨p, hp, rfl⟩ := List.mem_map.mp h
  rw [hl]
  exact (List.getElem?_eq_some_iff.mp (ok.ix p hp)).1
theorem dr_lc {elt tg iter : Expr} {ifs : List Expr} {scope : Scope} {own : List (Str × Nat)} {pos : Pos} {m : Ro → W Ex (List D)} {g : TG} {p : D → Option (List (Nat × D))} {sl : List Nat} {c : Ro → W Ex Bool} {e : Ro → W Ex D} (hc : X.calm = true) (hN : X.N.Nodup) (hi : DI G X Wx tg iter m) (ok : BlkOk X.N X.env.scope scope own)
    (hg : ∀ (s : Shared) (H : Hp) (C : Addr) (cl : List (Str × Addr)) (fp : List Addr), DG G (X.blk s H scope (compEnvC scope cl C X.env) fp) tg g p sl) (hsl : ∀ i ∈ sl, i ∈ own.map (·.2)) (ht : ∀ (s : Shared) (H : Hp) (C : Addr) (cl : List (Str × Addr)) (fp : List Addr), DTs G (X.blk s H scope (compEnvC scope cl C X.env) fp) WxF ifs c)
    (he : ∀ (s : Shared) (H : Hp) (C : Addr) (cl : List (Str × Addr)) (fp : List Addr), DE G (X.blk s H scope (compEnvC scope cl C X.env) fp) WxF elt e) (hs : ∀ x, foldedSetIterable iter X.env x = pure x := by intro _; rfl) :
    DR G X Wx (.ListComp elt [⟨tg, iter, ifs, 0⟩] scope pos) (mLc m (own.map (·.2)) p c e) := by
  refine ⟨⟨fun pins s σ H Q I h => ?_⟩, mLc_mono hi.mono (ht {} (fun _ => none) 0 [] []).mono (he {} (fun _ => none) 0 [] []).mono⟩
  exact (pe_lc hc hN hi.pi ok (fun s H C cl fp => (hg s H C cl fp).pg) (fun s H C cl fp => (ht s H C cl fp).pt) (fun s H C cl fp => (he s H C cl fp).pe) hs).run pins s σ H Q I
    (lc_tLc hi.mono (ht s H 0 [] []).mono (he s H 0 [] []).mono (hg s H 0 [] []) (own_lt I.len ok hsl) h)
/-- x = [..] on one line -/
theorem ds_setLc {i : Nat} {y : Str} {py : Pos} {elt tg iter : Expr} {ifs : List Expr} {scope : Scope} {own : List (Str × Nat)} {pos spos : Pos} {m : Ro → W Ex (List D)} {g : TG} {p : D → Option (List (Nat × D))} {sl : List Nat} {c : Ro → W Ex Bool} {e : Ro → W Ex D} (fz : List Nat)
    (hy : X.N[i]? = some y) (hyl : X.env.scope.names.lookup y = some .local) (hsw : swapsWith (.ListComp elt [⟨tg, iter, ifs, 0⟩] scope pos) (some (.Name y py)) spos.line X.env = pure true) (hc : X.calm = true) (hN : X.N.Nodup) (hi : DI G X Wx tg iter m) (ok : BlkOk X.N X.env.scope scope own)
    (hg : ∀ (s : Shared) (H : Hp) (C : Addr) (cl : List (Str × Addr)) (fp : List Addr), DG G (X.blk s H scope (compEnvC scope cl C X.env) fp) tg g p sl) (hsl : ∀ i ∈ sl, i ∈ own.map (·.2)) (ht : ∀ (s : Shared) (H : Hp) (C : Addr) (cl : List (Str × Addr)) (fp : List Addr), DTs G (X.blk s H scope (compEnvC scope cl C X.env) fp) WxF ifs c)
    (he : ∀ (s : Shared) (H : Hp) (C : Addr) (cl : List (Str × Addr)) (fp : List Addr), DE G (X.blk s H scope (compEnvC scope cl C X.env) fp) WxF elt e) (hs : ∀ x, foldedSetIterable iter X.env x = pure x := by intro _; rfl) :
    DS G X Wx (.Assign [.Name y py] (.ListComp elt [⟨tg, iter, ifs, 0⟩] scope pos) spos) (mSet fz i (mLc m (own.map (·.2)) p c e)) := by
  have mm := mLc_mono (vs := own.map (·.2)) (p := p) hi.mono (ht {} (fun _ => none) 0 [] []).mono (he {} (fun _ => none) 0 [] []).mono
  refine ⟨⟨fun pins s σ H D' I ⟨H0, N0, ρ, r, q⟩ => ?_⟩, fun ρ => (Mono.up (mm _)).bind fun _ => W.Mono.ret⟩
  refine (ps_setLc hc hN hy hyl hsw hi.pi ok (fun s H C cl fp => (hg s H C cl fp).pg) (fun s H C cl fp => (ht s H C cl fp).pt) (fun s H C cl fp => (he s H C cl fp).pe) hs).run pins s σ H D' I ?_
  obtain ⟨S, o⟩ := r.own
  refine lc_tLc hi.mono (ht s H 0 [] []).mono (he s H 0 [] []).mono (hg s H 0 [] []) (own_lt I.len ok hsl) ⟨_, _, o.sees r.same.tb fz, (mm _).run (fun p z v H1 s1 r1 f1 => ?_) (fun x z => ?_) q⟩
  · exact z _ _ ⟨r.same.trans s1, by rw [asg_len, List.length_set]; exact r.len, o.stored fz r.same r.len s1 r1 f1⟩
  · intro c dd H' s1 r1
    exact z σ c dd H' (r.step s1) (r1.mono fun _ y => y.out r.same)

/-! ### dict blocks -/
def putD (kvs : List (Key × D)) (k : Key) (d : D) : List (Key × D) :=
  if (kvs.any fun kv => decide (kv.1 = k)) = true then kvs.map (fun kv => if kv.1 = k then (kv.1, d) else kv) else kvs ++ [(k, d)]
theorem RepK.any {N : Addr → Prop} {H : Hp} {k : Key} : ∀ {kvs : List (Key × D)} {ks : List (Key × V)}, RepK G N H kvs ks → (ks.any fun kv => decide (kv.1 = k)) = (kvs.any fun kv => decide (kv.1 = k))
  | [], _, h => by rw [show _ = [] from h]; rfl
  | (_, _) :: _, _, ⟨w, ws, e, _, rs⟩ => by subst e; rw [List.any_cons, List.any_cons, RepK.any rs]
theorem RepK.map {N : Addr → Prop} {H : Hp} {k : Key} {d : D} {v : V} (rv : Rep G N H d v) : ∀ {kvs : List (Key × D)} {ks : List (Key × V)}, RepK G N H kvs ks → RepK G N H (kvs.map fun kv => if kv.1 = k then (kv.1, d) else kv) (ks.map fun kv => if kv.1 = k then (kv.1, v) else kv)
  | [], _, h => by rw [show _ = [] from h]; rfl
  | (k', d') :: r, _, ⟨w, ws, e, r1, rs⟩ => by
    subst e
    rw [List.map_cons, List.map_cons]
    by_cases h : k' = k
    · rw [if_pos (show (k', d').1 = k from h), if_pos (show (k', w).1 = k from h)]
      exact ⟨v, _, rfl, rv, RepK.map rv rs⟩
    · rw [if_neg (show ¬ (k', d').1 = k from h), if_neg (show ¬ (k', w).1 = k from h)]
      exact ⟨w, _, rfl, r1, RepK.map rv rs⟩
theorem RepK.app {N : Addr → Prop} {H : Hp} : ∀ {ds es : List (Key × D)} {vs ws : List (Key × V)}, RepK G N H ds vs → RepK G N H es ws → RepK G N H (ds ++ es) (vs ++ ws)
  | [], _, _, _, h, h' => by rw [show _ = [] from h]; exact h'
  | (_, _) :: _, _, _, _, ⟨w, ws, e, r, rs⟩, h' => by subst e; exact ⟨w, _, rfl, r, RepK.app rs h'⟩
theorem RepK.put {N : Addr → Prop} {H : Hp} {k : Key} {d : D} {v : V} (rv : Rep G N H d v) {kvs : List (Key × D)} {ks : List (Key × V)} (r : RepK G N H kvs ks) : RepK G N H (putD kvs k d) (putK ks k v) := by
  unfold putD putK
  rw [r.any]
  by_cases h : (kvs.any fun kv => decide (kv.1 = k)) = true
  · rw [if_pos h, if_pos h]; exact RepK.map rv r
  · rw [if_neg h, if_neg h]; exact RepK.app r ⟨v, [], rfl, rv, rfl⟩
end
end Fb
end

section
set_option Elab.async false
set_option linter.all false
set_option maxRecDepth 100000
set_option maxHeartbeats 4000000
/-! list, tuple, dict, sorted. -/
namespace Fb
open PySem PySem.Spec PyProof.Rows L2
section
variable {G : Wd} {X : Cx} {Wx : WX}
def keyD : Key → D
  | .inl i => .int i
  | .inr x => .str x
theorem keyD_rep {N : Addr → Prop} {H : Hp} (k : Key) : Rep G N H (keyD k) (kV k) := by
  cases k <;> rfl
theorem RepK.keys {N : Addr → Prop} {H : Hp} : ∀ {kvs : List (Key × D)} {ks : List (Key × V)}, RepK G N H kvs ks → Reps G N H (kvs.map fun kv => keyD kv.1) (ks.map fun kv => kV kv.1)
  | [], _, h => by rw [show _ = [] from h]; rfl
  | (k, _) :: _, _, ⟨w, ws, e, _, rs⟩ => by subst e; exact ⟨_, _, rfl, keyD_rep k, RepK.keys rs⟩
def gTuple : List D → Rt
  | [.lst ds] => W.ret (false, .tup ds)
  | [.tup ds] => W.ret (false, .tup ds)
  | _ => W.fail
theorem gTuple_mono (ds : List D) : W.Mono (gTuple ds) := by
  unfold gTuple
  split <;> first | exact W.Mono.ret | exact W.Mono.fail
theorem bl_tuple (Z : X.K = G.K) : CallR X (.type "tuple") (rD G gTuple) := by
  intro pins s σ H xs us Q I r h
  obtain ⟨N, ds, rr, q⟩ := h
  unfold gTuple at q
  split at q
  · obtain ⟨v, rfl, a, vs, rfl, n, e, rs⟩ := rr.one_inv
    exact call_tuple_of pins s σ H _ us Q I r ⟨a, vs, rfl, .inl ⟨.of e, fun l hl => new_tup rs q l hl⟩⟩
  · obtain ⟨v, rfl, a, vs, rfl, e, rs⟩ := rr.one_inv
    exact call_tuple_of pins s σ H _ us Q I r ⟨a, vs, rfl, .inr ⟨Z ▸ e.sq, q _ H (Same.refl H) ⟨a, vs, rfl, e, rs.sub fun _ => Fr.of⟩ fun z => nomatch z⟩⟩
  · exact q.elim
/-! ### sorted -/
section
open PySem.W PySem.Calls
variable {prog : Program} {w : World} {A : Around} {E : Value → Shared → Prop} {s : Shared} {β : Type} {vs : List Value} {bs : List β} {enc : β → PyData} {R : Value → β → Prop}
end
open PySem.W in
/-- the data's order -/
def encD (d : D) : PyData := d.py.getD .none
def leD (a b : D) : Bool := PySem.W.dataLe false encD a b
/-- values with their data -/
theorem Reps.each {N : Addr → Prop} {H : Hp} : ∀ {ds : List D} {vs : List V} {us : List Value}, Reps G N H ds vs → Vals vs us → ∃ bs : List (V × D), bs.map (·.1) = vs ∧ bs.map (·.2) = ds ∧ PySem.W.EachIs (fun u b => RelV b.1 u) us bs ∧ ∀ b ∈ bs, Rep G N H b.2 b.1
  | [], _, _, h, r => by
    rw [show _ = [] from h] at r ⊢
    cases r
    exact ⟨[], rfl, rfl, .nil, fun b hb => by cases hb⟩
  | d :: ds, _, _, ⟨w, ws, e, r, rs⟩, rv => by
    subst e
    cases rv with
    | cons r1 r2 =>
      obtain ⟨bs, h1, h2, h3, h4⟩ := Reps.each rs r2
      refine ⟨(w, d) :: bs, by rw [List.map_cons, h1], by rw [List.map_cons, h2], .cons r1 h3, fun b hb => ?_⟩
      rcases List.mem_cons.mp hb with e | hb
      · rw [e]; exact r
      · exact h4 b hb
end
end Fb
end

section
set_option Elab.async false
set_option linter.all false
set_option maxRecDepth 100000
set_option maxHeartbeats 4000000
/-! Changes of what a slot holds alone; methods. -/
namespace Fb
open PySem PySem.Spec PyProof.Rows L2
section
variable {G : Wd} {H0 H H1 : Hp} {N0 : Addr → Prop} {S : Nat ⊕ Nat → Option Addr} {σ : Fb.St} {ρ : En}
theorem Out.notS {i : Nat ⊕ Nat} {a : Addr} (h : S i = some a) : ¬ Out N0 H0 S a := fun z => z.2 i h
theorem LeX.anti {N N1 : Addr → Prop} {H' : Hp} (h : LeX G N1 H H') (hN : ∀ b, N b → N1 b) : LeX G N H H' := fun b u e c => h b u e (c.imp (hN b) id)
theorem OwnT.monoX {N N' : Addr → Prop} {a : Addr} {d : D} {H' : Hp} (hN : ∀ b, N b → H b ≠ none → N' b) (hL : LeX G (fun b => N b ∨ nestD d = Option.some b) H H') (ha : H' a = H a) (h : OwnT G N H a d) : OwnT G N' H' a d := by
  have hL1 : LeX G N H H' := hL.anti fun _ z => .inl z
  cases d with
  | lst ds => obtain ⟨vs, e, r⟩ := h; exact ⟨vs, ha.trans e, r.monoX hN hL1⟩
  | dic ds => obtain ⟨vs, e, r⟩ := h; exact ⟨vs, ha.trans e, RepK.monoX hN hL1 r⟩
  | obj x c fs => obtain ⟨e0, C, dx, gs, m, e, r, t⟩ := h; exact ⟨e0, C, dx, gs, m, ha.trans e, RepF.monoX (N := Nx N fs) (fun b z y => z.elim (fun n => .inl (hN b n y)) .inr) (hL.anti fun _ z => z) r, t⟩
  | stk ds p x rows => obtain ⟨vs, t, v, ws, h1, h2, h3, h4, h5, h6⟩ := h; exact ⟨vs, t, v, ws, ha.trans h1, h2.monoX hN hL1, hL1 _ _ h3 (.inr id), h4.monoX hN hL1, hL _ _ h5 (.inl (.inr rfl)), h6.monoX hN hL1⟩
  | cel x ds => obtain ⟨e0, vs, e, r⟩ := h; exact ⟨e0, vs, ha.trans e, r.monoX hN hL1⟩
  | _ => exact h.elim
/-- something that slot i holds alone is changed -/
theorem OwnOk.mutG {i : Nat} {k : Nat ⊕ Nat} {a : Addr} {d d' : D} {u : HO} (o : OwnOk G H0 N0 S σ H ρ) (hk : k.elim id id = i) (hi : ρ[i]? = some (some (true, d))) (hS : S k = some a) (hu : isM G u) (w : ∀ b, S (.inl i) = some b → OwnT G (Out N0 H0 S) (upd H a u) b d') (hn : ∀ l, nestD d' = some l → S (.inr i) = some l) : OwnOk G H0 N0 S σ (upd H a u) (ρ.set i (some (true, d'))) := by
  obtain ⟨x, hx, kx⟩ := o.kind k a hS
  have lx : LeX G (Out N0 H0 S) H (upd H a u) := LeX.upd hx kx (Out.notS hS)
  refine ⟨fun j b e => ⟨(o.new j b e).1, ?_⟩, fun j b e => ?_, o.inj, fun j d2 e => ?_, fun j d2 e => ?_, fun j d2 l e hl => ?_⟩
  · by_cases hb : b = a
    · rw [hb, upd_same]; exact fun z => nomatch z
    · rw [upd_ne hb]; exact (o.new j b e).2
  · by_cases hb : b = a
    · rw [hb]; exact ⟨u, upd_same, hu⟩
    · rw [upd_ne hb]; exact o.kind j b e
  · by_cases hj : j = i
    · subst hj
      rw [List.getElem?_set_self'] at e
      rw [hi] at e
      cases e
    · rw [List.getElem?_set_ne (Ne.symm hj)] at e
      obtain ⟨v, e1, r1⟩ := o.shr j d2 e
      exact ⟨v, e1, r1.monoX (fun _ n _ => n) lx⟩
  · by_cases hj : j = i
    · subst hj
      rw [List.getElem?_set_self', hi] at e
      cases e
      obtain ⟨b, e1, e2, r1⟩ := o.own j d hi
      exact ⟨b, e1, e2, w b e2⟩
    · rw [List.getElem?_set_ne (Ne.symm hj)] at e
      obtain ⟨b, e1, e2, r1⟩ := o.own j d2 e
      have ne : ∀ {q : Nat ⊕ Nat} {c : Addr}, S q = some c → q.elim id id = j → c ≠ a := fun {q c} e3 e4 z => hj (by rw [← e4, o.inj q k a (z ▸ e3) hS, hk])
      refine ⟨b, e1, e2, r1.monoX (fun _ n _ => n) (LeX.upd hx kx fun z => z.elim (Out.notS hS) fun z => ne (o.nst j d2 a e z) rfl rfl) (upd_ne (ne e2 rfl))⟩
  · by_cases hj : j = i
    · subst hj
      rw [List.getElem?_set_self', hi] at e
      cases e
      exact hn l hl
    · rw [List.getElem?_set_ne (Ne.symm hj)] at e
      exact o.nst j d2 l e hl
/-- what slot i holds alone is changed -/
theorem OwnOk.mut {i : Nat} {a : Addr} {d d' : D} {u : HO} (o : OwnOk G H0 N0 S σ H ρ) (hi : ρ[i]? = some (some (true, d))) (hS : S (.inl i) = some a) (w : OwnT G (Out N0 H0 S) (upd H a u) a d') (hn : ∀ l, nestD d' = some l → S (.inr i) = some l := by exact fun _ z => nomatch z) : OwnOk G H0 N0 S σ (upd H a u) (ρ.set i (some (true, d'))) := by
  refine o.mutG rfl hi hS ?_ (fun b hb => ?_) hn
  · obtain ⟨x, e, kx⟩ := w.kind
    rw [upd_same] at e
    cases e
    exact kx
  · rw [hS] at hb
    cases hb
    exact w
theorem SRel.upd {a : Addr} {u : HO} {i : Nat ⊕ Nat} (h0 : Same1 G H0 H) (o : OwnOk G H0 N0 S σ H ρ) (hS : S i = some a) : Same1 G H0 (upd H a u) := ⟨Same.updN h0.toSame (o.new i a hS).1 (.inr (o.kind i a hS)), tabs_upd h0.tb (.inr (let ⟨u, e, h⟩ := o.kind i a hS; ⟨u, e, isM_no h⟩))⟩
theorem frzFrom_keep {fz : List Nat} : ∀ {ρ : En} {k i : Nat}, k + i ∉ fz → (frzFrom fz k ρ)[i]? = ρ[i]?
  | [], _, _, _ => rfl
  | none :: r, k, 0, _ => rfl
  | some (b, d) :: r, k, 0, h => by
    have : k ∉ fz := by simpa using h
    simp [frzFrom, this]
  | none :: r, k, i + 1, h => by simpa [frzFrom] using frzFrom_keep (ρ := r) (k := k + 1) (i := i) (by rwa [Nat.add_assoc, Nat.add_comm 1 i])
  | some (b, d) :: r, k, i + 1, h => by simpa [frzFrom] using frzFrom_keep (ρ := r) (k := k + 1) (i := i) (by rwa [Nat.add_assoc, Nat.add_comm 1 i])
theorem frz_keep {fz : List Nat} {i : Nat} (h : i ∉ fz) : (frz fz ρ)[i]? = ρ[i]? := frzFrom_keep (by rwa [Nat.zero_add])
/-- the slots behind the taking of d into what slot i holds -/
def tak (fz : List Nat) (i : Nat) (d : D) (ρ : En) : Option En := if imm d = true then some ρ else if i ∈ fz then none else some (frz fz ρ)
/-- .. d can be put into it -/
theorem OwnOk.take (o : OwnOk G H0 N0 S σ H ρ) (h0 : Same G H0 H) (s : Same G H H1) {fz : List Nat} {i : Nat} {d : D} {v : V} {ρ' : En} (t : tak fz i d ρ = some ρ') (q : Rep G (Fr (Out N0 H0 (cut fz S)) H) H1 d v) :
    ∃ S', OwnOk G H0 N0 S' σ H1 ρ' ∧ ρ'.length = ρ.length ∧ ρ'[i]? = ρ[i]? ∧ Rep G (Out N0 H0 S') H1 d v := by
  unfold tak at t
  by_cases hi : imm d = true
  · rw [if_pos hi] at t
    cases t
    exact ⟨S, o.same s, rfl, rfl, Rep.imm hi q⟩
  · rw [if_neg hi] at t
    by_cases hf : i ∈ fz
    · rw [if_pos hf] at t; cases t
    · rw [if_neg hf] at t
      cases t
      refine ⟨cut fz S, (o.frz fz).same s, frz_len, frz_keep hf, q.sub fun c hc => hc.elim id fun z => ⟨.inr (h0.free z), fun j w => ?_⟩⟩
      exact (o.new j c (cut_some w).1).2 z
end
/-- with what is there -/
def W.got {ε α β : Type} (o : Option α) (k : α → W ε β) : W ε β := match o with
  | some a => k a
  | none => W.fail
theorem got_mono {ε α β : Type} {o : Option α} {k : α → W ε β} (h : ∀ a, W.Mono (k a)) : W.Mono (W.got o k) := by
  cases o with
  | none => exact W.Mono.fail
  | some a => exact h a
theorem got_inv {ε α β : Type} {o : Option α} {k : α → W ε β} {Q : β → Prop} {E : ε → Prop} (h : W.got o k Q E) : ∃ a, o = some a ∧ k a Q E := by
  cases o with
  | none => exact h.elim
  | some a => exact ⟨a, rfl, h⟩
def slotL : Option (Option (Bool × D)) → Option (List D)
  | some (some (true, .lst ds)) => some ds
  | _ => none
theorem slotL_inv {o : Option (Option (Bool × D))} {ds : List D} (h : slotL o = some ds) : o = some (some (true, .lst ds)) := by
  unfold slotL at h
  split at h
  · cases h; rfl
  · cases h
section
variable {G : Wd} {X : Cx} {Wx : WX}
/-- a value seen with fz, to be put into what slot i holds -/
theorem DE.inF {e : Expr} {m : Ro → W Ex D} (h : DE G X Wx e m) {H0 H : Hp} {N0 : Addr → Prop} {σ : Fb.St} {ρ : En} {S : Nat ⊕ Nat → Option Addr} (h0 : Same1 G H0 H) (hl : ρ.length = σ.length) (o : OwnOk G H0 N0 S σ H ρ) (fz : List Nat) {Q : VK} {P : D → Prop} (q : up ρ (m (see fz ρ)) P (PoXS G H0 N0 Wx))
    (hP : ∀ r v H1, P r → Same G H H1 → Rep G (Fr (Out N0 H0 (cut fz S)) H) H1 r v → Q v H1) : tE G Wx m σ H Q := by
  refine ⟨_, _, o.sees h0.tb fz, (h.mono _).run (fun r z v H1 s1 r1 => hP r v H1 z s1 r1) (fun x z => ?_) q⟩
  intro c dd H' s r
  exact z σ c dd H' ⟨h0.trans s, hl, _, o.same s⟩ (r.mono fun _ y => y.out h0)
/-- x.extend(e) -/
def taks (fz : List Nat) (i : Nat) (es : List D) (ρ : En) : Option En := if imms es = true then some ρ else if i ∈ fz then none else some (frz fz ρ)
theorem OwnOk.takes {H0 H H1 : Hp} {N0 : Addr → Prop} {S : Nat ⊕ Nat → Option Addr} {σ : Fb.St} {ρ : En} (o : OwnOk G H0 N0 S σ H ρ) (h0 : Same G H0 H) (s : Same G H H1) {fz : List Nat} {i : Nat} {d : List D} {v : List V} {ρ' : En} (t : taks fz i d ρ = some ρ') (q : Reps G (Fr (Out N0 H0 (cut fz S)) H) H1 d v) :
    ∃ S', OwnOk G H0 N0 S' σ H1 ρ' ∧ ρ'.length = ρ.length ∧ ρ'[i]? = ρ[i]? ∧ Reps G (Out N0 H0 S') H1 d v := by
  unfold taks at t
  by_cases hi : imms d = true
  · rw [if_pos hi] at t
    cases t
    exact ⟨S, o.same s, rfl, rfl, Reps.imm hi q⟩
  · rw [if_neg hi] at t
    by_cases hf : i ∈ fz
    · rw [if_pos hf] at t; cases t
    · rw [if_neg hf] at t
      cases t
      refine ⟨cut fz S, (o.frz fz).same s, frz_len, frz_keep hf, q.sub fun c hc => hc.elim id fun z => ⟨.inr (h0.free z), fun j w => ?_⟩⟩
      exact (o.new j c (cut_some w).1).2 z
def asL : D → Option (List D)
  | .lst ds => some ds
  | _ => none
theorem asL_inv {d : D} {es : List D} (h : asL d = some es) : d = .lst es := by
  cases d <;> first | (cases h; done) | skip
  cases h; rfl
/-! ### methods that only read -/
theorem RepK.getD {N : Addr → Prop} {H : Hp} {kvs : List (Key × D)} {ks : List (Key × V)} {k : Key} {d : D} {v : V} (r : RepK G N H kvs ks) (rv : Rep G N H d v) : Rep G N H ((lookK kvs k).getD d) ((valV ks k).getD v) := by
  have lk := r.look (k := k)
  rcases e : lookK kvs k with _ | d'
  · rw [e] at lk
    rw [show valV ks k = none from lk]
    exact rv
  · rw [e] at lk
    obtain ⟨w, hw, rw'⟩ := (lk : ∃ v, valV ks k = some v ∧ Rep G N H d' v)
    rw [hw]
    exact rw'
end
end Fb
end

section
set_option Elab.async false
set_option linter.all false
set_option maxRecDepth 100000
set_option maxHeartbeats 4000000
/-! a, b = x, y; a, b = e. -/
namespace Fb
open PySem PySem.Spec PyProof.Rows L2
abbrev Pm := Nat × List Nat × (Ro → W Ex (Bool × D))
def parN (ρ0 : En) : List Pm → List Nat → En → W (Ex × En) En
  | [], _, ρ => W.ret ρ
  | (i, fz, m) :: r, hid, ρ => W.bind (up ρ0 (m (wipeR (see fz ρ) hid))) fun x => parN ρ0 r (i :: hid) (asg fz i x ρ)
theorem parN_mono {ρ0 : En} : ∀ {ms : List Pm} (h : ∀ m ∈ ms, ∀ ρ, W.Mono (m.2.2 ρ)) (hid : List Nat) (ρ : En), W.Mono (parN ρ0 ms hid ρ)
  | [], _, _, _ => W.Mono.ret
  | (i, fz, m) :: r, h, hid, ρ => (Mono.up (h _ List.mem_cons_self _)).bind fun x => parN_mono (fun m hm => h m (List.mem_cons_of_mem _ hm)) _ _
def mPar (ms : List Pm) : En → WS := fun ρ => W.bind (parN ρ ms [] ρ) fun ρ' => W.ret (.nx, ρ')
section
variable {G : Wd} {X : Cx} {Wx : WX}
def slotsOf (ms : List Pm) (vs : List V) : List (Nat × V) := (ms.map (·.1)).zip vs
def tP (G : Wd) (Wx : WX) (ms : List Pm) : TA := fun σ H Q => ∃ H0 N0 ρ0 ws ρ hid, SRel G H0 N0 σ H ρ0 ∧ SRel G H0 N0 (setV σ ws) H ρ ∧ (∀ w ∈ ws, w.1 ∈ hid) ∧
  parN ρ0 ms hid ρ (fun ρ' => ∀ vs H', vs.length = ms.length → SRel G H0 N0 (setV σ (ws ++ slotsOf ms vs)) H' ρ' → Q vs H') (PoXS G H0 N0 Wx)
structure DPs (G : Wd) (X : Cx) (Wx : WX) (es : List Expr) (ms : List Pm) : Prop where
  pa : PA X es (tP G Wx ms)
  mono : ∀ m ∈ ms, ∀ ρ, W.Mono (m.2.2 ρ)
theorem dps_nil : DPs G X Wx [] [] := ⟨⟨fun pos pins s σ H Q I ⟨H0, N0, ρ0, ws, ρ, hid, r0, r, hw, q⟩ => pa_nil.run pos pins s σ H Q I (q [] H rfl (by simpa [slotsOf] using r))⟩, fun m hm => by cases hm⟩
theorem dps_cons {e : Expr} {es : List Expr} {m : Ro → W Ex (Bool × D)} {ms : List Pm} (i : Nat) (fz : List Nat) (h : DR G X Wx e m) (hs : DPs G X Wx es ms) (st : starEach (e :: es) X.env = (false, eval e X.env) :: starEach es X.env := by rfl) : DPs G X Wx (e :: es) ((i, fz, m) :: ms) := by
  refine ⟨⟨fun pos pins s σ H Q I q => (pa_cons h.pe hs.pa st).run pos pins s σ H Q I ?_⟩, fun m' hm => ?_⟩
  · obtain ⟨H0, N0, ρ0, ws, ρ, hid, r0, r, hw, q⟩ := q
    obtain ⟨S, o⟩ := r.own
    have er : ERel G (Out N0 H0 (cut fz S)) H σ (wipeR (see fz ρ) hid) := ⟨r.same.tb, fun j d e => by
      obtain ⟨e1, hj⟩ := wipeR_some e
      obtain ⟨v, e2, r2⟩ := (o.sees r.same.tb fz).get j d e1
      have e3 : (setV σ ws)[j]? = σ[j]? := setV_get fun w hh z => hj (by rw [← z]; exact hw w hh)
      exact ⟨v, e3 ▸ e2, r2⟩⟩
    refine ⟨_, _, er, (h.mono _).run (fun x z v H1 s1 r1 f1 => ?_) (fun x z => ?_) q⟩
    · refine ⟨H0, N0, ρ0, ws ++ [(i, v)], _, i :: hid, r0.step s1, ⟨r.same.trans s1, by rw [asg_len, setV_len]; have := r.len; rw [setV_len] at this; exact this, ?_⟩, fun w hh => ?_, (parN_mono (fun m hm => hs.mono m hm) _ _).run (fun ρ' y vs H' hl r' => ?_) (fun _ y => y) z⟩
      · rw [setV_app]
        exact o.stored fz r.same r.len s1 r1 f1
      · rcases List.mem_append.mp hh with hh | hh
        · exact List.mem_cons_of_mem _ (hw w hh)
        · simp at hh; rw [hh]; exact List.mem_cons_self
      · refine y (v :: vs) H' (by simp [hl]) ?_
        have : ws ++ slotsOf ((i, fz, m) :: ms) (v :: vs) = ws ++ [(i, v)] ++ slotsOf ms vs := by simp [slotsOf]
        rw [this]
        exact r'
    · intro c dd H' s1 r1
      exact z σ c dd H' (r0.step s1) (r1.mono fun _ y => y.out r.same)
  · rcases List.mem_cons.mp hm with e | hm
    · rw [e]; exact h.mono
    · exact hs.mono m' hm
theorem mPar_mono {es : List Expr} {ms : List Pm} (h : DPs G X Wx es ms) (ρ : En) : W.Mono (mPar ms ρ) := (parN_mono h.mono _ _).bind fun _ => W.Mono.ret
theorem par_start {es : List Expr} {ms : List Pm} (h : DPs G X Wx es ms) {H0 H : Hp} {N0 : Addr → Prop} {ρ : En} {σ : Fb.St} {D' : Ends} {Q : List V → Hp → Prop} (r : SRel G H0 N0 σ H ρ) (q : mPar ms ρ (PoS G H0 N0 D') (PoXS G H0 N0 Wx))
    (hQ : ∀ vs H' ρ', vs.length = ms.length → SRel G H0 N0 (setV σ (slotsOf ms vs)) H' ρ' → (∀ H'', Same G H' H'' → D'.nx (setV σ (slotsOf ms vs)) H'') → Q vs H') : tP G Wx ms σ H Q :=
  ⟨H0, N0, ρ, [], ρ, [], r, r, (fun w hw => by cases hw), (parN_mono h.mono _ _).run (fun ρ' y vs H' hl r' => hQ vs H' ρ' hl r' fun H'' s => y _ _ (r'.step s)) (fun _ y => y) q⟩
theorem len2 {α : Type} {vs : List α} (h : vs.length = 2) : ∃ a b, vs = [a, b] := by
  match vs, h with
  | [a, b], _ => exact ⟨a, b, rfl⟩
/-- the stores are swapped -/
theorem ds_par2 {i j : Nat} {x y : Str} {a b : Expr} {f g : List Nat} {m n : Ro → W Ex (Bool × D)} {px py pt : Pos} {kt k2 pt2} {pos : Pos} (hc : X.calm = true) (hN : X.N.Nodup) (hi : X.N[i]? = some x) (hj : X.N[j]? = some y) (hij : i ≠ j)
    (hx : X.env.scope.names.lookup x = some .local) (hy : X.env.scope.names.lookup y = some .local) (h : DPs G X Wx [a, b] [(i, f, m), (j, g, n)])
    (hw : swappedStores [.Tuple [.Name x px, .Name y py] kt pt] (.Tuple [a, b] k2 pt2) X.env = pure (some [x, y]))
    (hs : swapsWithSole [.Tuple [.Name x px, .Name y py] kt pt] (.Tuple [a, b] k2 pt2) pos.line X.env = pure false := by rfl) :
    DS G X Wx (.Assign [.Tuple [.Name x px, .Name y py] kt pt] (.Tuple [a, b] k2 pt2) pos) (mPar [(i, f, m), (j, g, n)]) := by
  refine DS.imp (mPar_mono h) (ps_par hc hN hi hj hij hx hy h.pa hw hs) fun H0 N0 ρ σ H D' r q => ?_
  refine par_start h r q fun vs H' ρ' hl r' k => ?_
  obtain ⟨v, w, rfl⟩ := len2 hl
  exact ⟨v, w, rfl, k H' (Same.refl H')⟩
/-- they are not: the tuple is made, and unpacked -/
structure NG (X : Cx) (tg : List Expr) (is : List Nat) (g : TGs) : Prop where
  pg : PGs X tg g
  st : ∀ (vs : List V) (σ : Fb.St) (H : Hp) (Q : Fb.St → Hp → Prop), vs.length = is.length → Q (setV σ (is.zip vs)) H → g vs σ H Q
/-! ### a, b = e -/
theorem RepB.imm {N N' : Addr → Prop} {H : Hp} {bs : List (Nat × D)} {ws : List (Nat × V)} (i : imms (bs.map (·.2)) = true) (h : RepB G N H bs ws) : RepB G N' H bs ws := by
  induction h with
  | nil => exact .nil
  | cons h t ih =>
    rw [List.map_cons] at i
    unfold imms at i
    exact .cons ⟨h.1, h.2.imm (and_l i)⟩ (ih (and_r i))
/-- items are stored that lie out -/
theorem OwnOk.setE {H0 H : Hp} {N0 N : Addr → Prop} {bs : List (Nat × D)} {ws : List (Nat × V)} (h : RepB G N H bs ws) : ∀ {S : Nat ⊕ Nat → Option Addr} {σ : Fb.St} {ρ : En}, (∀ a, N a → Out N0 H0 S a) → OwnOk G H0 N0 S σ H ρ → ρ.length = σ.length → ∃ S', OwnOk G H0 N0 S' (setV σ ws) H (Fb.setE ρ bs) := by
  induction h with
  | nil => exact fun _ o _ => ⟨_, o⟩
  | @cons b w bs ws h t ih =>
    intro S σ ρ hN o hl
    obtain ⟨i, d⟩ := b
    obtain ⟨j, v⟩ := w
    obtain ⟨e, r⟩ := h
    obtain rfl : i = j := e
    refine ih (σ := σ.set i (some v)) (ρ := ρ.set i (some (false, d))) (fun a na => ?_) (o.setS hl (r.sub hN)) (by rw [List.length_set, List.length_set]; exact hl)
    refine ⟨(hN a na).1, fun k z => ?_⟩
    rcases put_some z with ⟨_, y⟩ | ⟨_, y⟩
    · cases y
    · exact (hN a na).2 k y
end
end Fb
end

section
set_option Elab.async false
set_option linter.all false
set_option maxRecDepth 100000
set_option maxHeartbeats 4000000
/-! Own classes: properties, methods, new instances. -/
namespace Fb
open PySem PySem.Spec PyProof.Rows L2
theorem RepF.lookN {G : Wd} {N : Addr → Prop} {H : Hp} {f : Str} : ∀ {fs : List (Str × D)} {gs : List (Str × V)}, RepF G N H fs gs → fs.lookup f = none → gs.lookup f = none
  | [], _, h, e => by rw [show _ = [] from h]; rfl
  | (k, d') :: r, _, ⟨w, ws, ew, rd, rs⟩, e => by
    subst ew
    rw [List.lookup_cons] at e ⊢
    cases hb : f == k with
    | true => rw [hb] at e; cases e
    | false => rw [hb] at e; exact RepF.lookN rs e
theorem cx_never {P : Program} {w : World} {outer : List Env} {H : Hp} {s : Shared} {u : Value} {s' : Shared} (h : L2.CX P w outer H s (fun _ _ _ => False) u s') : False := by
  obtain ⟨_, _, _, _, _, _, _, _, _, _, _, _, h⟩ := h
  exact h
section
variable {P : Program} {w : World} {G : Wd} {base : Heap} {k j : Nat} {X : Cx} {Wx : WX}
/-! ### properties -/
def mProp (c : Str) (sem : List D → Rt) (m : Ro → W Ex D) : Ro → W Ex (Bool × D) := fun ρ => W.bind (m ρ) fun d => W.got (asIns c d) fun _ => W.calm (sem [d])
/-! ### methods -/
def mMeth (c : Str) (mn : Str) (n : Nat) (sem : List D → Rt) (dds : List D) (m : Ro → W Ex D) (a : Ro → W Ex (List D)) : Ro → W Ex (Bool × D) := fun ρ => W.bind (m ρ) fun d => W.got (asIns c d) fun fs => if fs.lookup mn = none then W.bind (a ρ) fun ds => if (d :: (ds ++ dds)).length = n then sem (d :: (ds ++ dds)) else W.fail else W.fail
/-! ### new instances -/
structure SameB (G : Wd) (x : Addr) (H H' : Hp) : Prop where
  ext : ∀ a o, a ≠ x → H a = some o → (∀ ps, o ≠ .tbl ps) → H' a = some o
  fre : ∀ a, a ≠ x → H' a = none → H a = none
  tab : TabsG G H → TabsG G H'
theorem SameB.refl {G : Wd} {x : Addr} {H : Hp} : SameB G x H H := ⟨fun _ _ _ e _ => e, fun _ _ e => e, id⟩
theorem SameB.of {G : Wd} {x : Addr} {H H1 H2 : Hp} (s : Same G H H1) (t : SameB G x H1 H2) : SameB G x H H2 := ⟨fun a o n e k => t.ext a o n (s.at e k) k, fun a n e => s.free (t.fre a n e), fun z => t.tab (s.tab z)⟩
theorem SameB.same {G : Wd} {x : Addr} {H H1 H2 : Hp} (n : H x = none) (s : Same G H H1) (t : SameB G x H1 H2) : Same G H H2 := ⟨fun a o e k => t.ext a o (ne_of_none e n) (s.at e k) k, fun a e => by
  by_cases c : a = x
  · subst c; exact n
  · exact s.free (t.fre a c e), fun z => t.tab (s.tab z)⟩
def PoF (G : Wd) (N : Addr → Prop) (H : Hp) (Q : VK) (x C dx : Addr) (fs : List (Str × D)) : Prop := ∀ H' gs, SameB G x H H' → H' x = some (.ins C dx gs) → RepF G (Fr N H) H' fs gs → Q .non H'
abbrev If := W Ex (List (Str × D))
/-- the def at f, an __init__ of the class at C: the attributes that it stores -/
structure FnI (P : Program) (w : World) (G : Wd) (base : Heap) (k : Nat) (f : Addr) (fd : FuncData) (ps : List Str) (C : Addr) (sem : List D → If) : Prop where
  run : ∀ (A : Around) (outer : List Env) (s : Shared) (H : Hp) (args : Args) (us : List Value) (vs : List V) (ds : List D) (N : Addr → Prop) (x dx : Addr) (Q : VK) (E : XK), Room k A → A.guards = some [] → Env0 P w G.K G.mg base A outer s H → TabsG G H → H x = some (.ins C dx []) →
    BindsTo s fd args (ps.zip (.ref x :: us)) → Vals vs us → Reps G N H ds vs → vs.length + 1 = ps.length →
    sem ds (PoF G N H Q x C dx) (fun x => ∀ c dd H', Same G H H' → XRep G (Fr N H) H' x c dd → E c dd H') → codeAny (model P w) A (.call (.ref f) args) (CR (CX P w) outer P w H s Q E) s
  mono : ∀ ds, W.Mono (sem ds)
end
end Fb
end

section
set_option Elab.async false
set_option linter.all false
set_option maxRecDepth 100000
set_option maxHeartbeats 4000000
/-! __init__ of an own class: its stores come last. -/
namespace Fb
open PySem PySem.Spec PyProof.Rows L2
mutual
/-- no instance is in it -/
def noins : D → Bool
  | .tup xs => noinss xs
  | .lst xs => noinss xs
  | .dic kvs => noinsK kvs
  | .ins _ _ => false
  | .obj _ _ _ => false
  | .stk _ _ _ _ => false
  | .non => true
  | .bl _ => true
  | .int _ => true
  | .str _ => true
  | .box _ => true
  | .ty _ => true
  | .cls _ => true
  | .exn _ _ _ => false
  | .erv _ _ _ _ => false
  | .cel _ _ => false
  | .raw _ => true
  | .scr _ => true
  | .clo _ _ => false
def noinss : List D → Bool
  | [] => true
  | x :: xs => noins x && noinss xs
def noinsK : List (Key × D) → Bool
  | [] => true
  | (_, x) :: xs => noins x && noinsK xs
end
section
variable {G : Wd} {N : Addr → Prop} {H H' : Hp} {x C dx : Addr} {gs : List (Str × V)}
theorem ne_ins {a : Addr} {o : HO} (hx : H x = some (.ins C dx gs)) (h : H a = some o) (k : ∀ C dx gs, o ≠ .ins C dx gs) : a ≠ x := fun e => by rw [e, hx] at h; cases h; exact k _ _ _ rfl
def noinsF : List (Str × D) → Bool
  | [] => true
  | (_, x) :: xs => noins x && noinsF xs
def putFD (f : Str) (v : D) : List (Str × D) → List (Str × D)
  | [] => [(f, v)]
  | (g, x) :: r => if g = f then (g, v) :: r else (g, x) :: putFD f v r
theorem RepF.put {f : Str} {d : D} {v : V} (r : Rep G N H d v) : ∀ {fs : List (Str × D)} {gs : List (Str × V)}, RepF G N H fs gs → RepF G N H (putFD f d fs) (putF f v gs)
  | [], _, h => by rw [show _ = [] from h]; exact ⟨v, [], rfl, r, rfl⟩
  | (g, x) :: rest, _, ⟨w, ws, e, r1, rs⟩ => by
    subst e
    unfold putFD putF
    by_cases h : g = f
    · rw [if_pos h, if_pos h]; exact ⟨v, ws, rfl, r, rs⟩
    · rw [if_neg h, if_neg h]; exact ⟨w, _, rfl, r1, RepF.put r rs⟩
theorem RepF.length : ∀ {fs : List (Str × D)} {gs : List (Str × V)}, RepF G N H fs gs → gs.length = fs.length
  | [], _, h => by rw [show _ = [] from h]; rfl
  | (_, _) :: fs, _, ⟨w, ws, e, _, rs⟩ => by rw [e, List.length_cons, List.length_cons, RepF.length rs]
end
section
variable {G : Wd} {X : Cx} {Wx : WX}
/-- the stores of a new instance's attributes -/
def fldN (ρ : Ro) : List (Str × (Ro → W Ex D)) → List (Str × D) → If
  | [], acc => W.ret acc
  | (f, m) :: r, acc => W.bind (W.calm (m ρ)) fun d => if noins d = true ∧ acc.length < 1000 then fldN ρ r (putFD f d acc) else W.fail
def tSf (G : Wd) (C : Addr) (ms : List (Str × (Ro → W Ex D))) : TS := fun D' σ H => ∃ (N : Addr → Prop) (ρ : Ro) (x dx : Addr) (acc : List (Str × D)) (gs : List (Str × V)), σ[0]? = some (some (.ref x)) ∧ H x = some (.ins C dx gs) ∧ RepF G N H acc gs ∧ noinsF acc = true ∧ ERel G N H σ ρ ∧ (∀ (i : Nat) (d : D), ρ[i]? = some (some d) → noins d = true) ∧
  fldN ρ ms acc (fun fs => ∀ H' gs', SameB G x H H' → H' x = some (.ins C dx gs') → RepF G (Fr N H) H' fs gs' → D'.nx σ H') (fun _ => False)
structure DSf (G : Wd) (X : Cx) (C : Addr) (sts : List Stmt) (ms : List (Str × (Ro → W Ex D))) : Prop where
  ps : PSs X sts (tSf G C ms)
  mono : ∀ m ∈ ms, ∀ ρ, W.Mono (m.2 ρ)
/-! ### the statements ahead of them -/
def rawAt : Option (Option (Bool × D)) → Option Addr
  | some (some (_, .raw a)) => some a
  | _ => none
abbrev IW := En → W (Ex × En) (List (Str × D))
def tSi (G : Wd) (Wx : WX) (C : Addr) (m : IW) : TS := fun D' σ H => ∃ H0 N0 ρ x dx, SRel G H0 N0 σ H ρ ∧ H0 x = some (.ins C dx []) ∧ rawAt ρ[0]? = some x ∧
  m ρ (fun fs => ∀ σ' H' gs, SameB G x H0 H' → H' x = some (.ins C dx gs) → RepF G (Fr N0 H0) H' fs gs → D'.nx σ' H') (PoXS G H0 N0 Wx)
structure DSi (G : Wd) (X : Cx) (Wx : WX) (C : Addr) (sts : List Stmt) (m : IW) : Prop where
  ps : PSs X sts (tSi G Wx C m)
  mono : ∀ ρ, W.Mono (m ρ)
theorem rawAt_inv {ρ : En} {x : Addr} (h : rawAt ρ[0]? = some x) : ∃ b, ρ[0]? = some (some (b, .raw x)) := by
  unfold rawAt at h
  split at h
  · rename_i e; cases h; exact ⟨_, e⟩
  · cases h
theorem SRel.self {H0 H : Hp} {N0 : Addr → Prop} {σ : Fb.St} {ρ : En} {x : Addr} (r : SRel G H0 N0 σ H ρ) (h : rawAt ρ[0]? = some x) : σ[0]? = some (some (.ref x)) := by
  obtain ⟨b, e⟩ := rawAt_inv h
  obtain ⟨S, o⟩ := r.own
  cases b with
  | false =>
    obtain ⟨v, e1, r1⟩ := o.shr 0 _ e
    rw [e1, show v = .ref x from r1]
  | true =>
    obtain ⟨a, e1, _, r1⟩ := o.own 0 _ e
    exact r1.elim
end
end Fb
end

section
set_option Elab.async false
set_option linter.all false
set_option maxRecDepth 100000
set_option maxHeartbeats 4000000
/-! enumerate over a tuple or a list. -/
namespace Fb
open PySem PySem.Spec PyProof.Rows L2
section
open PySem.AutoSeq1 (wpAny_loadPart')
theorem meets_enumT (l : Addr) (items : Array Value) (n : Nat) (dct : Option Addr) (sl : Array (Option Value)) :
    Meets (Builtin.«enumerate.__new__» ⟨[.type "enumerate", .ref l], []⟩) (fun _ R s => s.heap.get? l = some { cls := .type "tuple", dict := dct, data := .seq items n, slots := sl } ∧
      R (.ok (.ret (.ref (s.heap.push { cls := .type "tuple_iterator", data := .fields #[.ref l, .int 0 0] }).objs.size)))
        { s with heap := (s.heap.push { cls := .type "tuple_iterator", data := .fields #[.ref l, .int 0 0] }).push { cls := .type "enumerate", data := .fields #[.none, .bool false, .ref s.heap.objs.size, rawInt 0, .none, .none] } }) :=
  .of_wp fun prog w A R s h => by
    obtain ⟨hp, g, d, tk, os⟩ := s
    obtain ⟨hl, h⟩ := h
    have hsub := sub_enumerate
    have hL : Heap.IsTuple (Shared.heap ⟨hp, g, d, tk, os⟩) l items := ⟨_, hl, rfl, n, rfl⟩
    wp_walk using wpAny_loadPart' hl
    refine wpAny_stack_any fun st => wpAny_pure ?_
    split
    · rename_i c _ _ _ _ _
      cases (c == Value.type "enumerate")
      · wp_walk using wpAny_loadPart' hl, wpAny_pyIter_tuple hL
        exact ⟨_, rfl, h⟩
      · wp_walk using wpAny_loadPart' hl, wpAny_pyIter_tuple hL
        exact ⟨_, rfl, h⟩
    · wp_walk using wpAny_loadPart' hl, wpAny_pyIter_tuple hL
      exact ⟨_, rfl, h⟩
end
section
variable {prog : Program} {w : World} {A : Around} {E : Value → Shared → Prop} {s : Shared}
theorem call_enumT {l : Addr} {items : Array Value} {Q : Value → Shared → Prop} (hL : s.heap.IsTuple l items)
    (h : ∀ h', IsEnum h' (s.heap.objs.size + 1) s.heap.objs.size 0 .none → h'.IsTupleIter s.heap.objs.size l 0 → (∀ b o, s.heap.get? b = some o → h'.get? b = some o) → Q (.ref (s.heap.objs.size + 1)) { s with heap := h' }) :
    wpAny (model prog w) A (call (.type "enumerate") [.ref l]) Q E s := by
  obtain ⟨⟨c, dct, dt, sl⟩, hl, hc, n, hd⟩ := hL
  replace hc : c = .type "tuple" := hc
  replace hd : dt = .seq items n := hd
  subst hc hd
  refine callType_new F.called_enumerate (by decide) (F.typeCall_enumerate_1 _) (F.newCall_enumerate_1 _) (fun obj => F.args_object_init_2 obj _) F.entry_enumerate_new (meets_enumT l items n dct sl) ⟨hl, ?_⟩
  have hz : (s.heap.push { cls := .type "tuple_iterator", data := .fields #[.ref l, .int 0 0] }).objs.size = s.heap.objs.size + 1 := Heap.size_push ..
  show _ ∧ _
  rw [hz]
  have he : IsEnum ((s.heap.push { cls := .type "tuple_iterator", data := .fields #[.ref l, .int 0 0] }).push
      { cls := .type "enumerate", data := .fields #[.none, .bool false, .ref s.heap.objs.size, rawInt 0, .none, .none] }) (s.heap.objs.size + 1) s.heap.objs.size 0 .none := by
    have := Heap.get?_push_size (s.heap.push { cls := .type "tuple_iterator", data := .fields #[.ref l, .int 0 0] })
      (o := { cls := .type "enumerate", data := .fields #[.none, .bool false, .ref s.heap.objs.size, rawInt 0, .none, .none] }) rfl
    rw [hz] at this; exact this
  exact ⟨⟨_, he, rfl⟩, h _ he ⟨_, Heap.get?_push_of_some _ (Heap.get?_push_size _ rfl), rfl, rfl⟩ fun b o x => Heap.get?_push_of_some _ (Heap.get?_push_of_some _ x)⟩
end
theorem drawsT {prog : Program} {w : World} {A : Around} (hh : A.handled = none) (it l : Addr) (hne : l ≠ it) (items : Array Value) :
    Draws prog w A it [it, l] items.size (fun i v => items[i]? = some v) (fun i h => h.IsTupleIter it l i ∧ h.IsTuple l items) where
  live := fun _ _ st => let ⟨o, ho, _⟩ := st.1; ⟨o, ho⟩
  frame := fun _ _ _ st hk => ⟨st.1.at fun o e => hk it (by simp) o e, let ⟨o, e, r⟩ := st.2; ⟨o, hk l (by simp) o e, r⟩⟩
  item := fun i s Q E hi st hQ => by
    refine RZ.nextOf_tuple_item st.1 st.2 (x := items[i]) (by simp [hi]) fun h' hit' hs' => ?_
    exact hQ _ h' s.toks (by simp [hi]) ⟨hit', let ⟨o, e, r⟩ := st.2; ⟨o, (hs'.2 l hne).trans e, r⟩⟩ hs'
  done := fun s Q E st hE => RZ.nextOf_tuple_end hh st.1 st.2 (by simp) hE
theorem pyNext_enumT_end {prog : Program} {w : World} {A : Around} {E : Value → Shared → Prop} {s : Shared} {e it l : Addr} {i : Nat} {items : Array Value} {old : Value} {c : Int} {Q : Option Value → Shared → Prop} (hh : A.handled = none)
    (he : IsEnum s.heap e it c old) (hit : s.heap.IsTupleIter it l i) (hl : s.heap.IsTuple l items) (hx : items[i]? = none)
    (hQ : ∀ h', Heap.ExtBut it s.heap h' → Q none { s with heap := h' }) : wpAny (model prog w) A (pyNext (.ref e)) Q E s := by
  have hT : s.TypeIs (.ref e) "enumerate" := ⟨_, he, rfl⟩
  unfold pyNext
  refine wpAny_bind (wpAny_attempt (wpAny_callSpecial?_slot (name := Str.ofString "__next__") hT F.slot_enumerate_next
    (wpAny_call_entry F.slot_enumerate_next hT F.entry_enumerate_next ?_ (F.args_enumerate_next_1 _))))
  show wpAny _ _ (field (.ref e) 2 >>= _) _ _ _
  refine wpAny_bind (wpAny_field he rfl (x := .ref it) rfl ?_)
  refine wpAny_bind (RZ.nextOf_tuple_end hh hit hl hx fun h' x he' hx' => ?_)
  obtain ⟨o, ho, hc⟩ := hx'
  refine wpAny_bind (wpAny_isInstance (T := "StopIteration") (b := true) ⟨o, ho, hc⟩ isSubtype_stop ?_)
  exact wpAny_pure (hQ _ he')
def IteT (K : PySem.W.Frag) (a : Addr) : It :=
  ⟨fun i H => ∃ (xs : List V) (x : V), SqT K H a xs ∧ xs[i]? = some x, fun i H v H' => ∃ T x, v = .ref T ∧ H T = none ∧ H' = upd H T (.tup [.int (i : Nat), x]) ∧ ∀ xs, SqT K H a xs → xs[i]? = some x, fun i H => ∃ xs : List V, SqT K H a xs ∧ xs.length ≤ i⟩
theorem turn_enumT {P : Program} {w : World} {K : PySem.W.Frag} {elts : List Expr} {kk : Nat} {tpos : Pos} (a e it : Addr) :
    Turn P w K (.Tuple elts kk tpos) (IteT K a) [e, it] e (fun i h => (∃ old, IsEnum h e it ((i : Nat) : Int) old) ∧ h.IsTupleIter it a i ∧ e ≠ it) where
  mem := by simp
  obj := fun i h st b hb => by
    obtain ⟨⟨old, he⟩, ⟨o, ho, hc, hd⟩, _⟩ := st
    have e' : b = e ∨ b = it := by simpa using hb
    rcases e' with z | z
    · rw [z]; exact ⟨_, he, fun v q => nomatch q⟩
    · rw [z]; exact ⟨o, ho, fun v q => by rw [hd] at q; cases q⟩
  keep := fun i h h' st k => let ⟨⟨old, he⟩, hi, hne⟩ := st; ⟨⟨old, k e (by simp) _ he⟩, hi.at fun o q => k it (by simp) o q, hne⟩
  item := by
    intro X hP hw hK hc i pins s σ H E I hf st hg
    subst hP hw hK
    obtain ⟨⟨old, he⟩, hit, hne⟩ := st
    obtain ⟨xs, x, hq, hx⟩ := hg
    obtain ⟨its, rv, p, hz⟩ := I.tuple hq
    obtain ⟨u, hu, ru⟩ := rv.get hx
    have hel : e < s.heap.objs.size := Heap.lt_size he
    have hil : it < s.heap.objs.size := by obtain ⟨_, q, _⟩ := hit; exact Heap.lt_size q
    have hai : a ≠ it := by
      rintro rfl
      obtain ⟨o, e1, c1, _⟩ := hit
      obtain ⟨o', e2, c2, _⟩ := p
      rw [e1] at e2; cases e2
      rw [c1] at c2
      exact absurd c2 (by decide)
    have hae : e ≠ a := by
      rintro rfl
      obtain ⟨o', e2, c2, _⟩ := p
      have he' : s.heap.get? e = some _ := he
      rw [he'] at e2; cases e2
      exact absurd (show Value.type "enumerate" = .type "tuple" from c2) (by decide)
    have D := drawsT (prog := X.prog) (w := X.w) (A := X.A.in1) (I.ok.hd hc) it a hai its.toArray
    refine wpAny_pyNext_enum_itemD D he ⟨hit, p⟩ (by
      have := (List.getElem?_eq_some_iff.mp hu).1
      simpa using this) hne (by simp [hne, hae]) fun y h' tk hP ho st' hT hsz hk => ?_
    have hyu : y = u := by
      have : its.toArray[i]? = some u := by simpa using hu
      rw [hP] at this
      exact Option.some.inj this
    subst hyu
    refine ⟨_, rfl, wpAny_letOwnedTupleGo_enum (s := { s with heap := h', toks := tk + 1 }) ho fun h'' he' sb => ?_⟩
    have hT2 : h''.get? s.heap.objs.size = some { cls := .type "tuple", data := .seq #[.int i tk, y] } := (sb.2 _ (Nat.ne_of_gt hel)).trans hT
    have new : ObjOk X.prog X.w (upd H s.heap.objs.size (.tup [.int (i : Nat), x])) h'' s.heap.objs.size (.tup [.int (i : Nat), x]) :=
      ⟨by show 2 ≤ sizeLine; decide, [.int i tk, y], .cons ⟨_, rfl⟩ (.cons ru .nil), ⟨_, hT2, rfl, _, rfl⟩⟩
    have I1 : Inv X pins σ (upd H s.heap.objs.size (.tup [.int (i : Nat), x])) { s with heap := h'', toks := tk + 1 } :=
      I.turnedNew (ch := [e, it]) (fun b ob hb q => (sb.2 b (fun z => hb (by simp [z]))).trans (hk b ob (fun z => hb (by simp [z])) (fun z => hb (by simp [z])) q)) hf (Nat.le_refl _) new
    refine ⟨.ref s.heap.objs.size, _, I1, rfl, ⟨_, x, rfl, I.hok.fresh (Nat.le_refl _), rfl, fun ys hy => by rw [I.tuple_inj hy hq]; exact hx⟩, ⟨⟨y, ?_⟩, st'.1.at fun o q => (sb.2 it (Ne.symm hne)).trans q, hne⟩, fun b hb => ?_⟩
    · have e1 : ((i + 1 : Nat) : Int) = (i : Int) + 1 := by omega
      rw [e1]; exact he'
    · have hb' : b < s.heap.objs.size := by
        have e' : b = e ∨ b = it := by simpa using hb
        rcases e' with z | z
        · rw [z]; exact hel
        · rw [z]; exact hil
      rw [upd_ne (Nat.ne_of_lt hb')]
      exact (hf b hb).1
  done := by
    intro X hP hw hK hc i pins s σ H E I hf st hg
    subst hP hw hK
    obtain ⟨⟨old, he⟩, hit, hne⟩ := st
    obtain ⟨xs, hq, hx⟩ := hg
    obtain ⟨its, rv, p, hz⟩ := I.tuple hq
    obtain ⟨f0, f1, f2, f3, f4, f5⟩ := hf it (by simp)
    have hl := rv.length
    exact pyNext_enumT_end (I.ok.hd hc) he hit p (by simp; omega) fun h' eb => ⟨rfl, I.turned (t' := s.toks) (fun b o hb q => eb b o hb q) f0 f1 f3 f4 f5⟩
  self := fun A i s Q E st h => let ⟨⟨_, he⟩, _⟩ := st; wpAny_pyIter_enum he h
section
variable {G : Wd} {X : Cx} {Wx : WX}
theorem pi_enum2 {e : Expr} {ta : TA} {p pos tpos : Pos} {elts : List Expr} {kk : Nat} (hg : Gl X "enumerate") (hm : X.mg "enumerate" = none) (ha : PA X [e] ta) (hs : starEach [e] X.env = [(false, eval e X.env)] := by rfl) :
    PI X (.Tuple elts kk tpos) (.Call (.Name "enumerate" p) [e] [] pos) (fun σ H R => ta σ H fun vs H1 => ∃ a, vs = [.ref a] ∧ ((∃ xs, SqL X.K H1 a xs ∧ R (Ite X.K a) H1) ∨ ∃ xs, SqT X.K H1 a xs ∧ R (IteT X.K a) H1)) := by
  refine ⟨fun pins s σ H R I h => ?_⟩
  refine Call_ (ld_blt I hg hm boot_enumerate (PyProof.Rows.callWith_type1 (thn (ha.run pos pins s σ H _ I h) fun us s1 ⟨vs, H1, I1, r1, q1⟩ => ?_) hs rfl))
  obtain ⟨a, ex, q⟩ := q1
  subst ex
  cases r1 with
  | cons r rr =>
    cases rr
    cases r
    rcases q with ⟨xs, hq, q⟩ | ⟨xs, hq, q⟩
    · obtain ⟨its, rv, p', hz⟩ := I1.list hq
      refine call_enumerate_list p'.isList fun h' he hit hsz hk => wpAny_pyIter_enum he ?_
      have I2 : Inv X pins σ H1 { s1 with heap := h' } := I1.kept (t' := s1.toks) hk
      refine ⟨s1.heap.objs.size + 1, [s1.heap.objs.size + 1, s1.heap.objs.size], _, _, H1, rfl, I2, turn_enum a (s1.heap.objs.size + 1) s1.heap.objs.size, ⟨⟨.none, he⟩, hit, Nat.succ_ne_self _⟩, fun b hb => ?_, q⟩
      have e' : b = s1.heap.objs.size + 1 ∨ b = s1.heap.objs.size := by simpa using hb
      have hle : s1.heap.objs.size ≤ b := by
        rcases e' with z | z
        · rw [z]; exact Nat.le_add_right _ _
        · rw [z]; exact Nat.le_refl _
      exact I1.fpOk hle (I1.hok.fresh hle)
    · obtain ⟨its, rv, p', hz⟩ := I1.tuple hq
      refine call_enumT (items := its.toArray) p' fun h' he hit hk => wpAny_pyIter_enum he ?_
      have I2 : Inv X pins σ H1 { s1 with heap := h' } := I1.kept (t' := s1.toks) hk
      refine ⟨s1.heap.objs.size + 1, [s1.heap.objs.size + 1, s1.heap.objs.size], _, _, H1, rfl, I2, turn_enumT a (s1.heap.objs.size + 1) s1.heap.objs.size, ⟨⟨.none, he⟩, hit, Nat.succ_ne_self _⟩, fun b hb => ?_, q⟩
      have e' : b = s1.heap.objs.size + 1 ∨ b = s1.heap.objs.size := by simpa using hb
      have hle : s1.heap.objs.size ≤ b := by
        rcases e' with z | z
        · rw [z]; exact Nat.le_add_right _ _
        · rw [z]; exact Nat.le_refl _
      exact I1.fpOk hle (I1.hok.fresh hle)
def enD : Nat → List D → List D
  | _, [] => []
  | k, d :: ds => .tup [.int k, d] :: enD (k + 1) ds
theorem enD_get : ∀ {ds : List D} {k i : Nat}, (enD k ds)[i]? = ds[i]?.map fun d => .tup [.int ((k + i : Nat) : Int), d]
  | [], _, _ => by simp [enD]
  | d :: ds, k, 0 => by simp [enD]
  | d :: ds, k, i + 1 => by
    unfold enD
    rw [List.getElem?_cons_succ, List.getElem?_cons_succ, enD_get, show k + 1 + i = k + (i + 1) by omega]
theorem serves_enumL {K : PySem.W.Frag} {N : Addr → Prop} {H : Hp} {a : Addr} {ds : List D} {vs : List V} (n : N a) (h : H a = some (.lst vs)) (r : Reps G N H ds vs) : Serves G N (Ite K a) (enD 0 ds) H := fun HP p i H' s => by
  have h' : SqL K H' a vs := .of (s.at (p.has a _ h (.inl n)))
  have r' := (r.part p).same s
  refine ⟨fun d e => ?_, fun e => ⟨vs, h', ?_⟩⟩
  · rw [enD_get] at e
    obtain ⟨d', e, ed⟩ := Option.map_eq_some_iff.mp e
    obtain ⟨v, e1, r1⟩ := r'.get' e
    refine ⟨⟨vs, v, h', e1⟩, fun x H'' y => ?_⟩
    obtain ⟨T, w, y1, y2, y3, y4⟩ := (show ∃ T x', x = .ref T ∧ H' T = none ∧ H'' = upd H' T (.tup [.int (i : Nat), x']) ∧ ∀ xs, SqL K H' a xs → xs[i]? = some x' from y)
    have := y4 vs h'
    rw [e1] at this
    cases this
    subst y1 y3 ed
    have s2 : Same G H' (upd H' T (.tup [.int (i : Nat), v])) := Same.updN (Same.refl H') y2
    refine ⟨s2, T, _, rfl, .inl upd_same, .int ((0 + i : Nat) : Int), [v], by rw [Nat.zero_add], rfl, .one (r1.same s2)⟩
  · rw [enD_get] at e
    rw [r.length]
    have e : ds[i]? = none := by simpa using e
    exact List.getElem?_eq_none_iff.mp e
theorem serves_enumT {N : Addr → Prop} {H : Hp} {a : Addr} {ds : List D} {vs : List V} (h : TupAt G.K H a vs) (r : Reps G N H ds vs) : Serves G N (IteT G.K a) (enD 0 ds) H := fun HP p i H' s => by
  have h' : SqT G.K H' a vs := ((Le.of s).tupT (p.has.tupT h)).sq
  have r' := (r.part p).same s
  refine ⟨fun d e => ?_, fun e => ⟨vs, h', ?_⟩⟩
  · rw [enD_get] at e
    obtain ⟨d', e, ed⟩ := Option.map_eq_some_iff.mp e
    obtain ⟨v, e1, r1⟩ := r'.get' e
    refine ⟨⟨vs, v, h', e1⟩, fun x H'' y => ?_⟩
    obtain ⟨T, w, y1, y2, y3, y4⟩ := (show ∃ T x', x = .ref T ∧ H' T = none ∧ H'' = upd H' T (.tup [.int (i : Nat), x']) ∧ ∀ xs, SqT G.K H' a xs → xs[i]? = some x' from y)
    have := y4 vs h'
    rw [e1] at this
    cases this
    subst y1 y3 ed
    have s2 : Same G H' (upd H' T (.tup [.int (i : Nat), v])) := Same.updN (Same.refl H') y2
    refine ⟨s2, T, _, rfl, .inl upd_same, .int ((0 + i : Nat) : Int), [v], by rw [Nat.zero_add], rfl, .one (r1.same s2)⟩
  · rw [enD_get] at e
    rw [r.length]
    have e : ds[i]? = none := by simpa using e
    exact List.getElem?_eq_none_iff.mp e
def enumD : List D → W Ex (List D)
  | [.lst ds] => W.ret (enD 0 ds)
  | [.tup ds] => W.ret (enD 0 ds)
  | _ => W.fail
theorem enumD_mono (ds : List D) : W.Mono (enumD ds) := by
  unfold enumD
  split <;> first | exact W.Mono.ret | exact W.Mono.fail
theorem enumD_inv {ds : List D} {Q : List D → Prop} {E : Ex → Prop} (h : enumD ds Q E) : ∃ xs, (ds = [.lst xs] ∨ ds = [.tup xs]) ∧ Q (enD 0 xs) := by
  unfold enumD at h
  split at h
  · exact ⟨_, .inl rfl, h⟩
  · exact ⟨_, .inr rfl, h⟩
  · exact h.elim
def mEnum (m : Ro → W Ex (List D)) : Ro → W Ex (List D) := fun ρ => W.bind (m ρ) enumD
theorem di_enum {e : Expr} {m : Ro → W Ex (List D)} {p pos tpos : Pos} {elts : List Expr} {kk : Nat} (ZK : X.K = G.K) (Z : X.mg = G.mg) (hg : Gl X "enumerate") (hm : G.mg "enumerate" = none) (ha : DA G X Wx [e] m) (hs : starEach [e] X.env = [(false, eval e X.env)] := by rfl) : DI G X Wx (.Tuple elts kk tpos) (.Call (.Name "enumerate" p) [e] [] pos) (mEnum m) := by
  refine DI.imp (fun ρ => (ha.mono ρ).bind fun d => enumD_mono d) (pi_enum2 hg (Z ▸ hm) ha.pa hs) fun N ρ σ H R r q => ?_
  refine ha.go r q (fun x z => z) fun ds vs H1 z s1 r1 _ => ?_
  obtain ⟨xs, h, z⟩ := enumD_inv z
  rcases h with rfl | rfl
  · obtain ⟨v, rfl, a, ws, rfl, n, hq, rs⟩ := r1.one_inv
    exact ⟨a, rfl, .inl ⟨ws, .of hq, z _ H1 s1 (serves_enumL n hq rs)⟩⟩
  · obtain ⟨v, rfl, a, ws, rfl, hq, rs⟩ := r1.one_inv
    exact ⟨a, rfl, .inr ⟨ws, ZK ▸ hq.sq, z _ H1 s1 (ZK ▸ serves_enumT hq rs)⟩⟩
/-! ### a list, a tuple or a text -/
def walkD : D → W Ex (List D)
  | .lst ds => W.ret ds
  | .tup ds => W.ret ds
  | .str x => W.ret (x.cps.toList.map fun c => .str ⟨#[c]⟩)
  | _ => W.fail
theorem walkD_mono (d : D) : W.Mono (walkD d) := by
  unfold walkD
  split <;> first | exact W.Mono.ret | exact W.Mono.fail
theorem serves_str {N : Addr → Prop} {H : Hp} {x : Str} : Serves G N (Its x) (x.cps.toList.map fun c => D.str ⟨#[c]⟩) H := fun HP p i H' s => by
  rw [List.getElem?_map, Array.getElem?_toList]
  refine ⟨fun d e => ?_, fun e => ?_⟩
  · obtain ⟨c, ec, ed⟩ := Option.map_eq_some_iff.mp e
    refine ⟨(Array.getElem?_eq_some_iff.mp ec).1, fun v H'' y => ?_⟩
    obtain ⟨rfl, c', ec', rfl⟩ := (show H'' = H' ∧ ∃ c, x.cps[i]? = some c ∧ v = .str ⟨#[c]⟩ from y)
    rw [ec] at ec'
    cases ec'
    subst ed
    exact ⟨Same.refl _, rfl⟩
  · have e : x.cps[i]? = none := by simpa using e
    exact Array.getElem?_eq_none_iff.mp e
theorem pi_walk {tg e : Expr} {te : TE} (he : PE X e te) : PI X tg e (fun σ H R => te σ H fun x H1 => ((∃ a, x = .ref a ∧ (∃ xs, SqL X.K H1 a xs) ∧ R (Itl X.K a) H1) ∨ ∃ a, x = .ref a ∧ (∃ xs, SqT X.K H1 a xs) ∧ R (Itt X.K a) H1) ∨ ∃ z, x = .str z ∧ R (Its z) H1) := by
  refine ⟨fun pins s σ H R I h => ?_⟩
  have go := he.run pins s σ H _ I h
  refine thn go fun v s1 ⟨x, H1, I1, r1, q1⟩ => ?_
  rcases q1 with (⟨a, e, ⟨xs, hq⟩, q⟩ | ⟨a, e, ⟨xs, hq⟩, q⟩) | ⟨z, e, q⟩
  · subst e
    cases r1
    obtain ⟨its, rv, p, hz⟩ := I1.list hq
    refine wpAny_pyIter_list p.isList ?_
    refine ⟨s1.heap.objs.size, [s1.heap.objs.size], _, _, H1, rfl, I1.kept (t' := s1.toks) fun b o e => Heap.get?_push_of_some _ e, turn_list a _, ⟨_, Heap.get?_push_size _ rfl, rfl, rfl⟩, fun b hb => ?_, q⟩
    have e : b = s1.heap.objs.size := by simpa using hb
    subst e
    exact I1.fpOk (Nat.le_refl _) (I1.hok.fresh (Nat.le_refl _))
  · subst e
    cases r1
    obtain ⟨its, rv, p, hz⟩ := I1.tuple hq
    refine wpAny_pyIter_tuple (show s1.heap.IsTuple a its.toArray from p) ?_
    refine ⟨s1.heap.objs.size, [s1.heap.objs.size], _, _, H1, rfl, I1.kept (t' := s1.toks) fun b o e => Heap.get?_push_of_some _ e, turn_tuple a _, ⟨_, Heap.get?_push_size _ rfl, rfl, rfl⟩, fun b hb => ?_, q⟩
    have e : b = s1.heap.objs.size := by simpa using hb
    subst e
    exact I1.fpOk (Nat.le_refl _) (I1.hok.fresh (Nat.le_refl _))
  · subst e
    obtain ⟨t, rfl⟩ := r1
    cases ha : z.cps.all (· < 128)
    · exact wpAny_pyIter_wide ha (pi_one (tk := s1.toks) I1 _ (turn_str _ z t "str_iterator" (.inr rfl)) ⟨_, Heap.get?_push_size _ rfl, rfl, rfl⟩ q)
    · exact wpAny_pyIter_ascii ha (pi_one (tk := s1.toks) I1 _ (turn_str _ z t "str_ascii_iterator" (.inl rfl)) ⟨_, Heap.get?_push_size _ rfl, rfl, rfl⟩ q)
def mWalk (m : Ro → W Ex D) : Ro → W Ex (List D) := fun ρ => W.bind (m ρ) walkD
theorem di_walk {tg e : Expr} {m : Ro → W Ex D} (Z : X.K = G.K) (he : DE G X Wx e m) : DI G X Wx tg e (mWalk m) := by
  refine DI.imp (fun ρ => (he.mono ρ).bind fun d => walkD_mono d) (pi_walk he.pe) fun N ρ σ H R r q => ?_
  refine he.go r q (fun x z => z) fun d v H1 z s1 r1 _ => ?_
  cases d with
  | lst ds =>
    obtain ⟨a, vs, ev, n, h, rs⟩ := r1
    exact .inl (.inl ⟨a, ev, ⟨vs, .of h⟩, z _ H1 s1 (serves_lst n h rs)⟩)
  | tup ds =>
    obtain ⟨a, vs, ev, h, rs⟩ := r1
    exact .inl (.inr ⟨a, ev, ⟨vs, Z ▸ h.sq⟩, z _ H1 s1 (Z ▸ serves_tup h rs)⟩)
  | str x => exact .inr ⟨x, r1, z _ H1 s1 serves_str⟩
  | _ => exact z.elim
end
end Fb
end

section
set_option Elab.async false
set_option linter.all false
set_option maxRecDepth 100000
set_option maxHeartbeats 4000000
/-! What the printed proofs use. -/
namespace Fb
open PySem PySem.Spec PyProof.Rows L2
section
variable {P : Program} {w : World} {G : Wd} {base : Heap} {k : Nat} {X : Cx} {Wx : WX}
def A0 : Around := { handled := none, depth := 0, units := 0, guards := some [], frames := some [] }
theorem Cz.hu (Z : Cz P w G base k X Wx) : X.A.units + 65 < cLine := by
  have := Z.room.un
  omega
theorem Cz.hu64 (Z : Cz P w G base k X Wx) : X.A.units + 64 < cLine := Nat.lt_of_succ_lt Z.hu
theorem Cz.hu1 (Z : Cz P w G base k X Wx) : X.A.units + 1 < cLine := by
  have := Z.hu
  omega
theorem Cz.blk (Z : Cz P w G base k X Wx) (s : Shared) (H : Hp) (scope : Scope) (cenv : Env) (fp : List Addr) : Cz P w G base k (X.blk s H scope cenv fp) WxF :=
  ⟨Z.P, Z.w, Z.K, Z.mg, Z.base, Z.room, Z.gd, fun u s' ⟨_, _, _, _, _, _, _, _, _, _, _, _, _, _, _, _, h⟩ => h.elim⟩
theorem cz_of {A : Around} {outer : List Env} {s : Shared} {H : Hp} {E : XK} {Ns : List Str} {qual : Str} {sc : Scope} {f : Addr} {cdv : Value} (hr : Room k (A.deeper (envOfC qual sc s.heap.objs.size f cdv))) (hg : A.guards = some []) : Cz P w G base k (cxD P w G base Ns qual sc f cdv A outer s H E) (wxD E) :=
  ⟨rfl, rfl, rfl, rfl, rfl, hr, hg, takes_of rfl rfl rfl rfl⟩
theorem room0 {env : Env} (hk : k ≤ 100) : Room k (A0.deeper env) := ⟨rfl, by show 0 + 1 + 3 * k + 5 < 1000; omega, by show 0 + 3 + 16 * k + 200 < 9900; omega⟩
/-- THE RULE: a def by its body -/
theorem fnd_ok {f : Addr} {x qual : Str} {st : Stmt} {fd : FuncData} {Ns ps : List Str} {b : En → WS} (F : Fun G.K x qual st f fd) (S : FnScope Ns ps (defScope st)) (hk : k ≤ 100)
    (body : ∀ (cdv : Value) (A : Around) (outer : List Env) (s : Shared) (H : Hp) (E : XK), Cz P w G base k (cxD P w G base Ns qual (defScope st) f cdv A outer s H E) (wxD E) →
      DSs G (cxD P w G base Ns qual (defScope st) f cdv A outer s H E) (wxD E) (defBody st) b) : FnD P w G base (k + 1) f fd ps (runBody Ns.length b) := by
  obtain ⟨oc, od, kV, doc, pm, an, cdv, ct, osl, rfl, lk, hcd⟩ := F.ex
  exact fnd_of lk hcd S (fun ρ => (body cdv A0 [] {} (fun _ => none) (fun _ _ _ => True) (cz_of (room0 hk) rfl)).mono ρ) fun A outer s H E Z => body cdv A outer s H E Z
/-- .. an __init__ with one default, () -/
structure FunI (K : PySem.W.Frag) (x qual : Str) (st : Stmt) (f : Addr) (fd : FuncData) (ed : Addr) : Prop where
  ex : ∃ (oc : Value) (od : Option Addr) (T : Addr) (oT : Obj) (nT : Nat) (kV doc pm : Value) (an : Option Addr) (cdv ct : Value) (osl : Array (Option Value)),
    fd = PySem.W.fnOf x qual (defArgs st) (defBody st) (defScope st) (.ref T) kV doc pm an cdv ct ∧ K.lookup f = some ⟨oc, od, .func fd, osl⟩ ∧ PySem.W.codeIn K cdv qual = true ∧ K.lookup T = some oT ∧ oT.data = .seq #[.ref ed] nT
  ed : ∃ (oe : Obj) (ne : Nat), K.lookup ed = some oe ∧ oe.cls = .type "tuple" ∧ oe.data = .seq #[] ne
  kp : PySem.W.keepIn K (.ref f) = true
theorem FunI.binds {x qual : Str} {st : Stmt} {f ed : Addr} {fd : FuncData} {ps : List Str} {K : PySem.W.Frag} (F : FunI K x qual st f fd ed)
    (h : ∀ (T : Addr) (kV doc pm : Value) (an : Option Addr) (cdv ct : Value) (us its : List Value), us.length = ps.length → its.length = 1 →
      ∃ k, bindArgs (PySem.W.fnOf x qual (defArgs st) (defBody st) (defScope st) (.ref T) kV doc pm an cdv ct) ⟨us, []⟩ = seqItems? (.ref T) >>= k ∧ k (some its.toArray) = pure (ps.zip us)) : Binds K fd ps [] := by
  obtain ⟨oc, od, T, oT, nT, kV, doc, pm, an, cdv, ct, osl, rfl, lk, hcd, lT, dT⟩ := F.ex
  intro s us X hl
  rw [List.append_nil] at hl ⊢
  obtain ⟨k, e1, e2⟩ := h T kV doc pm an cdv ct us [.ref ed] hl rfl
  refine L2.BindsTo.of_looks fun M => ?_
  rw [e1]
  exact looks_items X lT dT (.of_pure e2)
/-- a def of the module: where it stands, what it does -/
structure FnK (P : Program) (w : World) (G : Wd) (base : Heap) (k : Nat) (x : Str) (ps : List Str) (sem : List D → Rt) : Prop where
  ex : ∃ (f : Addr) (fd : FuncData), G.mg x = some (.ref f) ∧ PySem.W.keepIn G.K (.ref f) = true ∧ Binds G.K fd ps [] ∧ FnD P w G base k f fd ps sem
/-- f(e, ..) of a def without defaults -/
theorem dr_f {x : Str} {j : Nat} {e : Expr} {es : List Expr} {p pos : Pos} {ps : List Str} {sem : List D → Rt} {m : Ro → W Ex (List D)} (Z : Cz P w G base k X Wx) (F : FnK P w G base j x ps sem) (hj : j ≤ k) (hg : Gl X x) (ha : DA G X Wx (e :: es) m) (hdb : (x == ("__debug__" : Str)) = false := by decide)
    (he : starEach (e :: es) X.env = (false, eval e X.env) :: starEach es X.env := by rfl) (hpl : (backTo pos (starEach es X.env)).any (·.1) = false := by rfl) : DR G X Wx (.Call (.Name x p) (e :: es) [] pos) (mCall ps.length sem [] m) := by
  obtain ⟨f, fd, h1, h2, h3, h4⟩ := F.ex
  exact dr_call (dvs := []) Z h4 hj h1 h2 h3 .nil (fun _ _ => rfl) hg ha hdb he hpl
/-- short names for what turns one judgement into another -/
def mDe (m : Ro → W Ex (Bool × D)) : Ro → W Ex D := fun ρ => W.bind (m ρ) fun r => W.ret r.2
def mDr (m : Ro → W Ex D) : Ro → W Ex (Bool × D) := fun ρ => W.bind (m ρ) fun d => W.ret (false, d)
theorem dde {e : Expr} {m : Ro → W Ex (Bool × D)} (h : DR G X Wx e m) : DE G X Wx e (mDe m) := h.de
theorem ddr {e : Expr} {m : Ro → W Ex D} (h : DE G X Wx e m) : DR G X Wx e (mDr m) := h.dr
theorem dv (i : Nat) {x : Str} {pos : Pos} (hN : X.N[i]? = some x := by rfl) (hv : Vis X.env.scope x := by first | exact Or.inl rfl | exact Or.inr (Or.inl rfl) | exact Or.inr (Or.inr rfl)) (hd : (x == ("__debug__" : Str)) = false := by decide) (hcd : (x == ("__classdict__" : Str)) = false := by decide) : DE G X Wx (.Name x pos) (mVar i) := de_var i (pv i hN hv hd hcd)
/-- a type of Python by its name -/
theorem dty {x : Str} {n : String} {pos : Pos} (Z : Cz P w G base k X Wx) (hg : Gl X x) (hm : G.mg x = none) (hv : bootBuiltins x = some (.type n)) (hn : x ≠ "__name__" := by decide) (hd : (x == ("__debug__" : Str)) = false := by decide) : DE G X Wx (.Name x pos) (mC (.ty n)) :=
  de_const (v := .ty n) (pe_bltn hg (Z.mg ▸ hm) hv rfl hn hd) fun _ _ => rfl
end
end Fb
end

section
set_option Elab.async false
set_option linter.all false
set_option maxRecDepth 100000
set_option maxHeartbeats 4000000
/-! The box of draws: opened, drawn from, closed. -/
namespace Fb
open PySem PySem.Spec PyProof.Rows L2
section
variable {X : Cx} {pins : List (Addr × Obj)} {σ : Fb.St} {H : Hp} {s : Shared} {a b : Addr}
theorem openB (I : Inv X pins σ H s) (h : H b = some (.ext (boxB b))) : ∃ ns : List Int, ns.length ≤ 100 ∧ Inv X pins σ (upd H b (.lst (ns.map V.int))) s := by
  obtain ⟨⟨ns, its, n, hl, r, e⟩, _, _⟩ := (show ObjOk X.prog X.w H s.heap b (.ext (boxB b)) from I.hok b _ h)
  refine ⟨ns, hl, I.write (x := b) (e := b) (t' := s.toks) (h' := s.heap) (by rw [h]; trivial) (.inl rfl) (fun _ _ _ q => q) ⟨_, e⟩ ⟨?_, its, n, r, e⟩⟩
  rw [List.length_map, sizeLine_eq]; omega
theorem openA (I : Inv X pins σ H s) (h : H a = some (.ext (boxA a b))) : ∃ m : Int, Inv X pins σ (upd H a (.lst [.ref b, .int m])) s := by
  obtain ⟨⟨m, its, n, r, e⟩, _, _⟩ := (show ObjOk X.prog X.w H s.heap a (.ext (boxA a b)) from I.hok a _ h)
  exact ⟨m, I.write (x := a) (e := a) (t' := s.toks) (h' := s.heap) (by rw [h]; trivial) (.inl rfl) (fun _ _ _ q => q) ⟨_, e⟩ ⟨by rw [sizeLine_eq]; show 2 ≤ _; omega, its, n, r, e⟩⟩
theorem closeB {ns : List Int} (I : Inv X pins σ H s) (h : H b = some (.lst (ns.map V.int))) (hl : ns.length ≤ 100) : Inv X pins σ (upd H b (.ext (boxB b))) s := by
  obtain ⟨_, its, n, r, e⟩ := (show ObjOk X.prog X.w H s.heap b (.lst (ns.map V.int)) from I.hok b _ h)
  exact I.write (x := b) (e := b) (t' := s.toks) (h' := s.heap) (by rw [h]; trivial) (.inl rfl) (fun _ _ _ q => q) ⟨_, e⟩ ⟨⟨ns, its, n, hl, r, e⟩, ⟨_, e⟩, fun h1 h2 ⟨ns, its, n, hl, r, e⟩ k => ⟨ns, its, n, hl, r, k _ e⟩⟩
theorem closeA {m : Int} (I : Inv X pins σ H s) (h : H a = some (.lst [.ref b, .int m])) : Inv X pins σ (upd H a (.ext (boxA a b))) s := by
  obtain ⟨_, its, n, r, e⟩ := (show ObjOk X.prog X.w H s.heap a (.lst [.ref b, .int m]) from I.hok a _ h)
  exact I.write (x := a) (e := a) (t' := s.toks) (h' := s.heap) (by rw [h]; trivial) (.inl rfl) (fun _ _ _ q => q) ⟨_, e⟩ ⟨⟨m, its, n, r, e⟩, ⟨_, e⟩, fun h1 h2 ⟨m, its, n, r, e⟩ k => ⟨m, its, n, r, k _ e⟩⟩
/-- the box within: its number, its cells; all else as in H -/
structure BoxIn (G : Wd) (H : Hp) (a b : Addr) (H' : Hp) (ns : List Int) (m : Int) : Prop where
  ne : a ≠ b
  ha : H' a = some (.lst [.ref b, .int m])
  hb : H' b = some (.lst (ns.map V.int))
  len : ns.length ≤ 100
  rest : ∀ c o, c ≠ a → c ≠ b → H c = some o → (∀ ps, o ≠ .tbl ps) → H' c = some o
  fre : ∀ c, H' c = none → H c = none
  tb : TabsG G H'
/-- a block over an open box -/
theorem pss_box (G : Wd) {sts : List Stmt} {t : TS} (h : PSs X sts t) {a b : Addr} : PSs X sts (fun D σ H => TabsG G H ∧ a ≠ b ∧ H a = some (.ext (boxA a b)) ∧ H b = some (.ext (boxB b)) ∧ ∀ ns m H1, BoxIn G H a b H1 ns m →
    t ⟨fun _ _ => False, fun v H' => ∃ ns m, BoxIn G H a b H' ns m ∧ D.rt v (upd (upd H' b (.ext (boxB b))) a (.ext (boxA a b))), fun _ _ => False, fun _ _ => False⟩ σ H1) := by
  refine ⟨fun pins s σ H D I ⟨t, ne, ha, hb, q⟩ => ?_⟩
  obtain ⟨ns, hl, I1⟩ := openB I hb
  obtain ⟨m, I2⟩ := openA (a := a) (b := b) I1 (by rw [upd_ne ne]; exact ha)
  have bx : BoxIn G H a b (upd (upd H b (.lst (ns.map V.int))) a (.lst [.ref b, .int m])) ns m := ⟨ne, upd_same, by rw [upd_ne ne.symm, upd_same], hl, fun c o h1 h2 e _ => by rw [upd_ne h1, upd_ne h2]; exact e, fun c e => by
    by_cases h1 : c = a
    · subst h1; rw [upd_same] at e; cases e
    · by_cases h2 : c = b
      · subst h2; rw [upd_ne h1, upd_same] at e; cases e
      · rw [upd_ne h1, upd_ne h2] at e; exact e, tabs_upd (tabs_upd t (.inr ⟨_, hb, boxB_no⟩)) (.inr ⟨_, by rw [upd_ne ne]; exact ha, boxA_no⟩)⟩
  refine thn (h.run pins s σ _ _ I2 (q ns m _ bx)) fun f s1 z => ?_
  cases f with
  | next => obtain ⟨_, _, _, z⟩ := z; exact z.elim
  | brk => obtain ⟨_, _, _, z⟩ := z; exact z.elim
  | cont => obtain ⟨_, _, _, z⟩ := z; exact z.elim
  | ret u =>
    obtain ⟨v, σ', H', I3, rv, ns', m', bx', z⟩ := z
    have I4 := closeB I3 bx'.hb bx'.len
    have I5 := closeA (a := a) (b := b) (m := m') I4 (by rw [upd_ne bx'.ne]; exact bx'.ha)
    exact ⟨v, σ', _, I5, rv, z⟩
theorem upd_none_ne {H : Hp} {a c : Addr} {o : HO} (e : upd H a o c = none) : c ≠ a ∧ H c = none := by
  by_cases h : c = a
  · subst h; rw [upd_same] at e; cases e
  · exact ⟨h, by rw [upd_ne h] at e; exact e⟩
theorem BoxIn.same {G : Wd} {H H' : Hp} {a b : Addr} {ns : List Int} {m : Int} (x : BoxIn G H a b H' ns m) (h1 : H a = some (.ext (boxA a b))) (h2 : H b = some (.ext (boxB b))) : Same G H (upd (upd H' b (.ext (boxB b))) a (.ext (boxA a b))) := ⟨fun c o e n => by
  by_cases ca : c = a
  · subst ca; rw [upd_same]; rw [h1] at e; exact e
  · by_cases cb : c = b
    · subst cb; rw [upd_ne ca, upd_same]; rw [h2] at e; exact e
    · rw [upd_ne ca, upd_ne cb]; exact x.rest c o ca cb e n, fun c e => x.fre c (upd_none_ne (upd_none_ne e).2).2, fun _ => tabs_upd (tabs_upd x.tb (.inr ⟨_, x.hb, lst_no⟩)) (.inr ⟨_, by rw [upd_ne x.ne]; exact x.ha, lst_no⟩)⟩
theorem BoxIn.step {G : Wd} {H H' H'' : Hp} {a b : Addr} {ns : List Int} {m : Int} (x : BoxIn G H a b H' ns m) (s : Same G H' H'') : BoxIn G H a b H'' ns m := ⟨x.ne, s.at x.ha, s.at x.hb, x.len, fun c o h1 h2 e n => s.at (x.rest c o h1 h2 e n) n, fun c e => x.fre c (s.free e), s.tab x.tb⟩
theorem BoxIn.setB {G : Wd} {H H' : Hp} {a b : Addr} {ns ns' : List Int} {m : Int} (x : BoxIn G H a b H' ns m) (hl : ns'.length ≤ 100) : BoxIn G H a b (upd H' b (.lst (ns'.map V.int))) ns' m := ⟨x.ne, by rw [upd_ne x.ne]; exact x.ha, upd_same, hl, fun c o h1 h2 e n => by rw [upd_ne h2]; exact x.rest c o h1 h2 e n, fun c e => x.fre c (upd_none_ne e).2, tabs_upd x.tb (.inr ⟨_, x.hb, lst_no⟩)⟩
theorem BoxIn.setA {G : Wd} {H H' : Hp} {a b : Addr} {ns : List Int} {m m' : Int} (x : BoxIn G H a b H' ns m) : BoxIn G H a b (upd H' a (.lst [.ref b, .int m'])) ns m' := ⟨x.ne, upd_same, by rw [upd_ne x.ne.symm]; exact x.hb, x.len, fun c o h1 h2 e n => by rw [upd_ne h1]; exact x.rest c o h1 h2 e n, fun c e => x.fre c (upd_none_ne e).2, tabs_upd x.tb (.inr ⟨_, x.ha, lst_no⟩)⟩
/-- as data -/
def boxD (ns : List Int) (m : Int) : D := .lst [.lst (ns.map D.int), .int m]
theorem BoxIn.rep {G : Wd} {H H' : Hp} {a b : Addr} {ns : List Int} {m : Int} (x : BoxIn G H a b H' ns m) : Rep G NT H' (boxD ns m) (.ref a) :=
  ⟨a, _, rfl, trivial, x.ha, .ref b, _, rfl, ⟨b, _, rfl, trivial, x.hb, Reps.ofInts ns⟩, .int m, [], rfl, rfl, rfl⟩
end
end Fb
end

section
set_option Elab.async false
set_option linter.all false
set_option maxRecDepth 100000
set_option maxHeartbeats 4000000
/-! A draw from the open box, read. -/
namespace Fb
open PySem PySem.Spec PyProof.Rows L2
/-! ### data -/
theorem pys_ints : ∀ ns : List Int, D.pys (ns.map D.int) = some (ns.map PyData.int)
  | [] => rfl
  | n :: r => by
    rw [List.map_cons, List.map_cons]
    unfold D.pys
    rw [pys_ints r]
    rfl
theorem lay_ints : ∀ ns : List Int, PyData.canLayAll0 (ns.map PyData.int) = true
  | [] => by simp [PyData.canLayAll0]
  | n :: r => by
    rw [List.map_cons]
    unfold PyData.canLayAll0
    rw [lay_ints r]
    simp [PyData.canLay0]
theorem shaped_ints (ns : List Int) : SeqAt.shaped (.list (ns.map PyData.int)) = true := by
  unfold SeqAt.shaped
  have h : PyData.depthAll (ns.map PyData.int) = 0 := PySem.W.depth_ints ns
  simp [PyData.canLay0, lay_ints, PyData.depth, h]
theorem deq_nil (ns : List Int) : D.deq (.lst (ns.map D.int)) (.lst []) = some ns.isEmpty := by
  have e1 : D.py (.lst (ns.map D.int)) = some (.list (ns.map PyData.int)) := by
    show (D.pys (ns.map D.int)).map PyData.list = _
    rw [pys_ints]
    rfl
  have e2 : D.py (.lst []) = some (.list []) := rfl
  unfold D.deq
  rw [e1, e2]
  show (if SeqAt.shaped (.list (ns.map PyData.int)) = true ∧ SeqAt.shaped (.list []) = true then some (PyData.eqv (.list (ns.map PyData.int)) (.list [])) else none) = _
  rw [if_pos ⟨shaped_ints ns, shaped_ints []⟩]
  cases ns with
  | nil => rfl
  | cons n r => rfl
theorem deq_int (i j : Int) : D.deq (.int i) (.int j) = some (i == j) := by rfl
def c0 : Ro → W Ex Bool := mTest (mOp (gEq true) (mOp gIx (mVar 0) (mC (.int 0))) (mDe (mLst mNil)))
def c1 : Ro → W Ex Bool := mTest (mOp (gEq false) (mOp gIx (mOp gIx (mVar 0) (mC (.int 0))) (mNeg (mC (.int 1)))) (mC (.int 0)))
theorem ev0 (ns : List Int) (m : Int) (r : Ro) : c0 (some (boxD ns m) :: r) = W.ret (!ns.isEmpty) := by
  show (W.bind (W.calm (gEq true (.lst (ns.map D.int)) (.lst []))) asB) = _
  unfold gEq
  rw [deq_nil]
  cases ns.isEmpty <;> rfl
theorem ev1 (ns : List Int) (x m : Int) (r : Ro) (h : (ns ++ [x]).length ≤ 100) : c1 (some (boxD (ns ++ [x]) m) :: r) = W.ret (x == 0) := by
  have e : atI ((ns ++ [x]).map D.int) (-1) = some (.int x) := by
    have hx : ixN ((ns ++ [x]).map D.int).length (-1) = some ns.length := by
      unfold ixN
      rw [if_neg (by decide), if_pos (by simp; omega)]
      simp
      omega
    unfold atI
    rw [hx]
    simp
  have e2 : ixD (.lst ((ns ++ [x]).map D.int)) (.int (-1)) = some (.int x) := e
  show (W.bind (W.bind (W.calm (gIx (.lst ((ns ++ [x]).map D.int)) (.int (-1)))) fun a => W.calm (gEq false a (.int 0))) asB) = _
  unfold gIx
  rw [e2]
  show (W.bind (W.calm (gEq false (.int x) (.int 0))) asB) = _
  unfold gEq
  rw [deq_int]
  cases (x == 0) <;> rfl
theorem bind_ret {ε α β : Type} (a : α) (k : α → W ε β) : W.bind (W.ret a) k = k a := rfl
def tD0 (K : PySem.W.Frag) : TE := tOp (rIxL K) (tVar 0) (tC (.int 0))
def gFdivW : D → D → W Ex D := gII fun i j => if 0 < j ∧ j < 1000000000000000000 then W.ret (.int (i / j)) else W.fail
theorem dop_fdivW {G : Wd} {X : Cx} : DOp G X (rI CDivW fun i j => .int (i / j)) gFdivW := dop_ii (fun _ _ => ite_mono W.Mono.ret W.Mono.fail) fun i j H Q q => by
  obtain ⟨c, q⟩ := ite_ret q
  exact ⟨i, j, rfl, rfl, wide_div (b := 64) c.1 (by have := c.1; have := c.2; omega) (by decide) (by decide), q _ fun _ _ => rfl⟩
def mQ : Ro → W Ex D := mOp gFdivW (mVar 2) (mVar 1)
def mR : Ro → W Ex (Bool × D) := mDr (mOp gMod (mDe (mBlt (g1 intD) (mCons (mVar 2) mNil))) (mVar 1))
def mA : Ro → W Ex D := mOp gMod (mDe (mBlt (g1 intD) (mCons (mDe (mOpR gAdd (mOp gMul (mOp gIx (mVar 0) (mC (.int 1))) (mC (.int 48271))) (mC (.int 37)))) mNil))) (mC (.int 2147483647))
def mZ : Ro → W Ex (Bool × D) := mDr (mOp gMod (mDe (mBlt (g1 intD) (mCons (mOp gFdiv (mOp gIx (mVar 0) (mC (.int 1))) (mC (.int 8))) mNil))) (mVar 1))
def tDraw (G : Wd) (K : PySem.W.Frag) (Wx : WX) : TS :=
  tSeq (tWhile (tT G Wx (mAnd c0 c1)) (tDrop (tBM0 K "list" rPop (tD0 K)))) (tSeq (tIfS (tT G Wx c0) (tSeq (tAsg (tBM0 K "list" rPop (tD0 K)) (gName 2)) (tSeq (tDrop (tBM K "list" rAppend (tD0 K) (tCons (tE G Wx mQ) tNil))) (tRet (tR G Wx mR)))) tNext)
    (tSeq (tAsg (tE G Wx mA) (L2.gSub (tVar 0) (tC (.int 1)) rSetL)) (tRet (tR G Wx mZ))))
section
variable {G : Wd} {K : PySem.W.Frag} {Wx : WX} {H H' : Hp} {a b : Addr} {ns : List Int} {m k : Int} {σ : Fb.St}
theorem BoxIn.er (x : BoxIn G H a b H' ns m) (h0 : σ[0]? = some (some (.ref a))) (h1 : σ[1]? = some (some (.int k))) : ERel G NT H' σ [some (boxD ns m), some (.int k)] := ⟨x.tb, fun i d e => by
  match i, e with
  | 0, e => cases e; exact ⟨_, h0, x.rep⟩
  | 1, e => cases e; exact ⟨_, h1, rfl⟩⟩
theorem BoxIn.er3 {r : Int} (x : BoxIn G H a b H' ns m) (h0 : σ[0]? = some (some (.ref a))) (h1 : σ[1]? = some (some (.int k))) (h2 : σ[2]? = some (some (.int r))) : ERel G NT H' σ [some (boxD ns m), some (.int k), some (.int r)] := ⟨x.tb, fun i d e => by
  match i, e with
  | 0, e => cases e; exact ⟨_, h0, x.rep⟩
  | 1, e => cases e; exact ⟨_, h1, rfl⟩
  | 2, e => cases e; exact ⟨_, h2, rfl⟩⟩
theorem BoxIn.d0 {Q : VK} (x : BoxIn G H a b H' ns m) (h0 : σ[0]? = some (some (.ref a))) (q : Q (.ref b) H') : tD0 K σ H' Q := ⟨_, h0, a, _, 0, .ref b, rfl, rfl, .of x.ha, rfl, q⟩
theorem tE_ret {N : Addr → Prop} {ρ : Ro} {me : Ro → W Ex D} {d : D} {Q : VK} (er : ERel G N H σ ρ) (e : me ρ = W.ret d) (h : ∀ v H', Same G H H' → Rep G (Fr N H) H' d v → Q v H') : tE G Wx me σ H Q := ⟨N, ρ, er, by rw [e]; exact h⟩
theorem tR_ret {N : Addr → Prop} {ρ : Ro} {me : Ro → W Ex (Bool × D)} {d : Bool × D} {Q : VK} (er : ERel G N H σ ρ) (e : me ρ = W.ret d) (h : ∀ v H', Same G H H' → Rep G (Fr N H) H' d.2 v → Q v H') : tR G Wx me σ H Q := ⟨N, ρ, er, by rw [e]; exact fun v H' s r _ => h v H' s r⟩
theorem tT_ret {N : Addr → Prop} {ρ : Ro} {me : Ro → W Ex Bool} {t : Bool} {Q : Bool → Hp → Prop} (er : ERel G N H σ ρ) (e : me ρ = W.ret t) (h : ∀ H', Same G H H' → Q t H') : tT G Wx me σ H Q := ⟨N, ρ, er, by rw [e]; exact h⟩
theorem snoc_of : ∀ ns : List Int, ns = [] ∨ ∃ l x, ns = l ++ [x] := fun ns => by
  rcases List.eq_nil_or_concat ns with h | ⟨l, x, h⟩
  · exact .inl h
  · exact .inr ⟨l, x, by simpa using h⟩
theorem evQ {bd : Option D} {r : Int} (h1 : 0 < k) (h2 : k < 100000000000000000) : mQ [bd, some (.int k), some (.int r)] = W.ret (.int (r / k)) := by
  show W.calm (if 0 < k ∧ k < 1000000000000000000 then W.ret (D.int (r / k)) else W.fail) = _
  rw [if_pos ⟨h1, by omega⟩]
  rfl
theorem evR {bd : Option D} {r : Int} (h1 : 0 < k) : mR [bd, some (.int k), some (.int r)] = W.ret (false, .int (r % k)) := by
  show (W.bind (W.calm (if 0 < k then W.ret (D.int (r % k)) else W.fail)) fun d => W.ret (false, d)) = _
  rw [if_pos h1]
  rfl
theorem evA {r : Ro} : ∃ m', mA (some (boxD ns m) :: r) = W.ret (.int m') := by
  refine ⟨(m * 48271 + 37) % 2147483647, ?_⟩
  have e1 : gMul (.int m) (.int 48271) = W.ret (.int (m * 48271)) := by
    show (if (-(2 ^ 64) < m ∧ m < 2 ^ 64) ∨ (-(2 ^ 64) < (48271 : Int) ∧ (48271 : Int) < 2 ^ 64) then W.ret (D.int (m * 48271)) else W.fail) = _
    rw [if_pos (.inr (by decide))]
  show (W.bind (W.bind (W.bind (W.bind (W.calm (gMul (.int m) (.int 48271))) fun a => W.bind (W.calm (gAdd a (.int 37))) fun r => W.ret r.2) fun d => W.calm (g1 intD [d])) fun r => W.ret r.2) fun a => W.calm (gMod a (.int 2147483647))) = _
  rw [e1]
  rfl
theorem evZ (h1 : 0 < k) : mZ [some (boxD ns m), some (.int k)] = W.ret (false, .int ((m / 8) % k)) := by
  show (W.bind (W.bind (W.bind (W.calm (gFdiv (.int m) (.int 8))) fun d => W.bind (W.calm (g1 intD [d])) fun r => W.ret r.2) fun a => W.calm (gMod a (.int k))) fun d => W.ret (false, d)) = _
  have e1 : gFdiv (.int m) (.int 8) = W.ret (.int (m / 8)) := rfl
  rw [e1]
  show (W.bind (W.calm (if 0 < k then W.ret (D.int ((m / 8) % k)) else W.fail)) fun d => W.ret (false, d)) = _
  rw [if_pos h1]
  rfl
theorem draw_read {D' : Ends} {σ : Fb.St} (hk : 0 < k) (hk2 : k < 100000000000000000) (h0 : σ[0]? = some (some (.ref a))) (h1 : σ[1]? = some (some (.int k))) (h2 : 2 < σ.length) (x : BoxIn G H a b H' ns m)
    (q : ∀ (r : Int) ns' m' H'', 0 ≤ r → r < k → BoxIn G H a b H'' ns' m' → D'.rt (.int r) H'') : tDraw G K Wx D' σ H' := by
  refine ⟨fun n σ H' => ∃ ns m, BoxIn G H a b H' ns m ∧ n = ns.length ∧ σ[0]? = some (some (.ref a)) ∧ σ[1]? = some (some (.int k)) ∧ 2 < σ.length, ⟨_, ns, m, x, rfl, h0, h1, h2⟩, ?_⟩
  rintro n σ1 H1 ⟨ns1, m1, x1, rfl, g0, g1, g2⟩
  have er := x1.er (G := G) g0 g1
  -- what follows the loop
  have rest : ∀ H2, BoxIn G H a b H2 ns1 m1 → (tSeq (tIfS (tT G Wx c0) (tSeq (tAsg (tBM0 K "list" rPop (tD0 K)) (gName 2)) (tSeq (tDrop (tBM K "list" rAppend (tD0 K) (tCons (tE G Wx mQ) tNil))) (tRet (tR G Wx mR)))) tNext)
    (tSeq (tAsg (tE G Wx mA) (L2.gSub (tVar 0) (tC (.int 1)) rSetL)) (tRet (tR G Wx mZ)))) D' σ1 H2 := fun H2 x2 => by
    refine tT_ret (x2.er (G := G) g0 g1) (ev0 ns1 m1 _) fun H3 s3 => ?_
    have x3 := x2.step s3
    rcases snoc_of ns1 with rfl | ⟨l, y, rfl⟩
    · -- the number moves on
      obtain ⟨m', e⟩ := evA (ns := []) (m := m1) (r := [some (.int k)])
      refine tE_ret (x3.er (G := G) g0 g1) e fun v H4 s4 r4 => ?_
      have x4 := x3.step s4
      obtain rfl : v = .int m' := r4
      refine ⟨_, g0, a, _, 1, 1, rfl, rfl, x4.ha, rfl, ?_⟩
      have x5 := x4.setA (m' := m')
      refine tR_ret (x5.er (G := G) g0 g1) (evZ hk) fun v H6 s6 r6 => ?_
      obtain rfl : v = .int ((m' / 8) % k) := r6
      exact q _ _ _ _ (Int.emod_nonneg _ (by omega)) (Int.emod_lt_of_pos _ hk) (x5.step s6)
    · -- a cell is drawn from
      have hne : (!(l ++ [y]).isEmpty) = true := by cases l <;> rfl
      show (if (!(l ++ [y]).isEmpty) = true then _ else _)
      rw [if_pos hne]
      refine x3.d0 g0 ⟨.inl ⟨rfl, _, .of x3.hb⟩, b, _, .int y, rfl, rfl, x3.hb, by simp, ?_⟩
      have hl : l.length ≤ 100 := by have := x3.len; simp at this; omega
      have x4 : BoxIn G H a b (upd H3 b (.lst (l.map V.int))) l m1 := x3.setB hl
      have e4 : ((l ++ [y]).map V.int).dropLast = l.map V.int := by simp
      rw [e4]
      have f0 : (σ1.set 2 (some (V.int y)))[0]? = some (some (.ref a)) := by rw [List.getElem?_set_ne (by decide)]; exact g0
      have f1 : (σ1.set 2 (some (V.int y)))[1]? = some (some (.int k)) := by rw [List.getElem?_set_ne (by decide)]; exact g1
      have f2 : (σ1.set 2 (some (V.int y)))[2]? = some (some (.int y)) := List.getElem?_set_self g2
      refine x4.d0 f0 ⟨.inl ⟨rfl, _, .of x4.hb⟩, tE_ret (x4.er3 (G := G) f0 f1 f2) (evQ hk hk2) fun v H5 s5 r5 => ?_⟩
      have x5 := x4.step s5
      obtain rfl : v = .int (y / k) := r5
      refine ⟨b, _, .int (y / k), rfl, rfl, x5.hb, by rw [List.length_map, sizeLine_eq]; omega, ?_⟩
      have x6 : BoxIn G H a b (upd H5 b (.lst ((l ++ [y / k]).map V.int))) (l ++ [y / k]) m1 := x5.setB (by have := x3.len; simpa using this)
      have e6 : l.map V.int ++ [V.int (y / k)] = (l ++ [y / k]).map V.int := by simp
      rw [e6]
      refine tR_ret (x6.er3 (G := G) f0 f1 f2) (evR hk) fun v H7 s7 r7 => ?_
      obtain rfl : v = .int (y % k) := r7
      exact q _ _ _ _ (Int.emod_nonneg _ (by omega)) (Int.emod_lt_of_pos _ hk) (x6.step s7)
  rcases snoc_of ns1 with rfl | ⟨l, y, rfl⟩
  · refine tT_ret (t := false) er (by show W.bind (c0 _) _ = _; rw [ev0]; rfl) fun H2 s2 => ?_
    exact rest H2 (x1.step s2)
  · have hne : (!(l ++ [y]).isEmpty) = true := by cases l <;> rfl
    refine tT_ret (t := (y == 0)) er (by show W.bind (c0 _) _ = _; rw [ev0, hne, bind_ret, if_pos rfl, ev1 l y m1 _ x1.len]) fun H2 s2 => ?_
    have x2 := x1.step s2
    by_cases hy : (y == 0) = true
    · rw [if_pos hy]
      refine ⟨fun σ' H' => ∃ ns m, BoxIn G H a b H' ns m ∧ ns.length = l.length ∧ σ'[0]? = some (some (.ref a)) ∧ σ'[1]? = some (some (.int k)) ∧ 2 < σ'.length, fun σ' H' ⟨ns, m, w1, w2, w3⟩ => ⟨l.length, by simp, ns, m, w1, w2.symm, w3⟩, ?_⟩
      refine x2.d0 g0 ⟨.inl ⟨rfl, _, .of x2.hb⟩, b, _, .int y, rfl, rfl, x2.hb, by simp, ?_⟩
      have e4 : ((l ++ [y]).map V.int).dropLast = l.map V.int := by simp
      rw [e4]
      exact ⟨l, m1, x2.setB (by have := x2.len; simp at this; omega), rfl, g0, g1, g2⟩
    · rw [if_neg hy]
      exact rest H2 x2
variable {P : Program} {w : World} {base : Heap} {kk : Nat}
/-- a def by what its body does at once -/
theorem fnd_raw {f : Addr} {x qual : Str} {st : Stmt} {fd : FuncData} {Ns ps : List Str} {sem : List D → Rt} (F : Fun G.K x qual st f fd) (S : FnScope Ns ps (defScope st)) (hm : ∀ ds, W.Mono (sem ds))
    (body : ∀ (cdv : Value) (A : Around) (outer : List Env) (s : Shared) (H : Hp) (E : XK) (vs : List V) (ds : List D) (N : Addr → Prop) (Q : VK), Cz P w G base kk (cxD P w G base Ns qual (defScope st) f cdv A outer s H E) (wxD E) → TabsG G H → Reps G N H ds vs → vs.length = ps.length →
      sem ds (PoR G N H Q) (fun x => ∀ c dd H', Same G H H' → XRep G (Fr N H) H' x c dd → E c dd H') →
      ∃ t, PSs (cxD P w G base Ns qual (defScope st) f cdv A outer s H E) (defBody st) t ∧ t { nx := fun _ H' => Q .non H', rt := Q } (L2.start Ns vs) H) : FnD P w G base (kk + 1) f fd ps sem := by
  obtain ⟨oc, od, kV, doc, pm, an, cdv, ct, osl, rfl, lk, hcd⟩ := F.ex
  refine ⟨fun A outer s H args us vs ds N Q E hr hg e0 tb hb rv rd hl q => ?_, hm⟩
  exact LamX.run_ofS lk hcd S hr e0 hb rv hl fun hr' => body cdv A outer s H E vs ds N Q (cz_of hr' hg) tb rd hl q
end
def sem__law_draw : List D → Rt
  | [.box (.nat 0), .int m] => fun Q _ => 0 < m ∧ m < 100000000000000000 ∧ ∀ r : Int, 0 ≤ r → r < m → Q (false, .int r)
  | _ => W.fail
theorem sem_draw_inv {ds : List D} {Q : Bool × D → Prop} {E : Ex → Prop} (h : sem__law_draw ds Q E) : ∃ m, ds = [.box 0, .int m] ∧ 0 < m ∧ m < 100000000000000000 ∧ ∀ r : Int, 0 ≤ r → r < m → Q (false, .int r) := by
  unfold sem__law_draw at h
  split at h
  · exact ⟨_, rfl, h⟩
  · exact h.elim
theorem sem_draw_mono (ds : List D) : W.Mono (sem__law_draw ds) := by
  unfold sem__law_draw
  split
  · exact ⟨fun f _ ⟨h1, h2, h3⟩ => ⟨h1, h2, fun r h4 h5 => f _ (h3 r h4 h5)⟩⟩
  · exact W.Mono.fail
theorem fnd_draw {P : Program} {w : World} {G : Wd} {base : Heap} {kk : Nat} {f : Addr} {x qual : Str} {st : Stmt} {fd : FuncData} {p1 p2 p3 : Str} (F : Fun G.K x qual st f fd) (S : FnScope [p1, p2, p3] [p1, p2] (defScope st))
    (body : ∀ (cdv : Value) (A : Around) (outer : List Env) (s : Shared) (H : Hp) (E : XK), Cz P w G base kk (cxD P w G base [p1, p2, p3] qual (defScope st) f cdv A outer s H E) (wxD E) →
      PSs (cxD P w G base [p1, p2, p3] qual (defScope st) f cdv A outer s H E) (defBody st) (tDraw G G.K (wxD E))) : FnD P w G base (kk + 1) f fd [p1, p2] sem__law_draw := by
  refine fnd_raw F S sem_draw_mono fun cdv A outer s H E vs ds N Q Z tb rd hl q => ?_
  obtain ⟨m, rfl, h1, h2, q⟩ := sem_draw_inv q
  obtain ⟨v, u, rfl, ⟨a, rfl, hx⟩, r2⟩ := rd.two_inv
  obtain rfl : u = .int m := r2
  obtain ⟨b, ne, ha, hb⟩ := (show ∃ b, a ≠ b ∧ H a = some (.ext (boxA a b)) ∧ H b = some (.ext (boxB b)) from hx)
  refine ⟨_, pss_box G (a := a) (b := b) (body cdv A outer s H E Z), tb, ne, ha, hb, fun ns m' H1 x1 => draw_read h1 h2 rfl rfl (by show 2 < 3; decide) x1 fun r ns' m'' H2 g1 g2 x2 => ⟨ns', m'', x2, ?_⟩⟩
  exact q r g1 g2 _ _ (x2.same ha hb) rfl fun z => nomatch z
end Fb
end

section
set_option Elab.async false
set_option linter.all false
set_option maxRecDepth 100000
set_option maxHeartbeats 4000000
/-! x.append(y.pop(e)) -/
namespace Fb
open PySem PySem.Spec PyProof.Rows L2
theorem Reps.erase {G : Wd} {N : Addr → Prop} {H : Hp} : ∀ {ds : List D} {vs : List V} (n : Nat), Reps G N H ds vs → Reps G N H (ds.eraseIdx n) (vs.eraseIdx n)
  | [], _, n, h => by rw [show _ = [] from h]; exact rfl
  | _ :: _, _, 0, ⟨w, ws, e, r, rs⟩ => by subst e; exact rs
  | _ :: _, _, n + 1, ⟨w, ws, e, r, rs⟩ => by subst e; exact ⟨w, _, rfl, r, Reps.erase n rs⟩
section
variable {G : Wd} {X : Cx} {Wx : WX}
end
end Fb
end

section
set_option Elab.async false
set_option linter.all false
set_option maxRecDepth 100000
set_option maxHeartbeats 4000000
/-! The end: a law's def called on the script; tables of code objects, empty at first. -/
namespace Fb
open PySem PySem.Spec PyProof.Rows L2
/-- a def's code object, its table (empty), the name of what comes into it -/
structure Tb where
  c : Addr
  P : Addr
  q : Str
abbrev tabsOf (T : List Tb) : List (Addr × Str) := T.map fun t => (t.P, t.q)
structure TbOk (K : PySem.W.Frag) (h : Heap) (t : Tb) : Prop where
  emp : h.get? t.P = some { cls := .none, data := .fields #[] }
  out : K.lookup t.P = none
  hd : PySem.W.CodeHd h t.c t.P
def MainB (mg : Str → Option Value) (h : Heap) : Prop := ∃ (bm : Addr) (ob : Obj), mg "__builtins__" = some (.ref bm) ∧ bm ≠ builtinsNs ∧ h.get? bm = some ob ∧ ob.cls = .type "module" ∧ ob.dict = some builtinsNs ∧ ob.data = .plain
def OnlyT (ts : List Tb) (H : Hp) : Prop := ∀ b, H b = none ∨ (∃ t ∈ ts, b = t.P) ∨ ∃ o xs, H b = some (.frz o (.lst xs))
/-- the call of the law at an abstract heap H in which nothing but the script and the tables may stand -/
theorem end_core {P : Program} {w : World} {K : PySem.W.Frag} {mg mb : Str → Option Value} {k : Nat} {fa a : Addr} {fd : FuncData} {x : Str} {sem : List D → Rt} {s₁ : Shared} {vs : List Value} {ns : List Int} {H : Hp} {ts : List Tb}
    (KX : K.In s₁.heap) (hns : s₁.heap.Ns mainGlobals mg) (hb : s₁.heap.Ns builtinsNs mb) (hbb : ∀ x : Str, x ≠ "__name__" → mb x = bootBuiltins x) (hlim : s₁.heap.NoLimit) (hg : s₁.gens = #[]) (hT : ∀ t ∈ ts, TbOk K s₁.heap t) (hM : MainB mg s₁.heap)
    (ha : s₁.heap.get? a = some { cls := .type "list", data := .seq vs.toArray }) (hr : Room k callerA)
    (F : ∀ base : Heap, K.In base → base.Ns mainGlobals mg → (∀ t ∈ ts, LamX.TabB base mg t.c t.P) → FnD P w ⟨K, mg, tabsOf ts⟩ base k fa fd [x] sem) (hbind : ∀ (s : Shared) (u : Value), BindsTo s fd ⟨[u], []⟩ [(x, u)])
    (hsem : sem [.scr ns] (fun r => r.2 = .bl true) fun _ => False) (hH : ∀ t ∈ ts, H t.P = some (.tbl #[])) (hO : OnlyT ts H) (hS : ScrAt K H a ns) (hok : HOk P w H s₁.heap) (hA : ∀ b, H b ≠ none → b = a ∨ ∃ t ∈ ts, b = t.P) (hK : H a ≠ none → K.lookup a = none) :
    codeAny (model P w) callerA (.call (.ref fa) ⟨[.ref a], []⟩) (fun r s' => r = .ok (.ret (.bool true)) ∧ OldK s₁.heap s'.heap ∧ s'.os = s₁.os ∧ AllBare s'.gens) s₁ := by
  have hid : ∀ {b : Addr} {o : Obj}, s₁.heap.get? b = some o → H b = none → (hidT s₁.heap H).get? b = some o := fun e n => hidT_get e n
  have isA : ∀ {b : Addr} {u : HO}, H b = some u → b = a ∨ ∃ t ∈ ts, b = t.P := fun {b u} q => hA b fun z => by rw [q] at z; cases z
  have clear : ∀ {b : Addr} {o : Obj}, s₁.heap.get? b = some o → (∀ xs n, o.data = .seq xs n → False) → (o.data = .fields #[] → False) → H b = none := fun {b o} e h1 h2 => by
    rcases q : H b with _ | u
    · rfl
    · rcases isA q with rfl | ⟨t, ht, rfl⟩
      · rw [ha] at e; cases e; exact (h1 _ _ rfl).elim
      · rw [(hT t ht).emp] at e; cases e; exact (h2 rfl).elim
  have dicts : ∀ {b : Addr} {o : Obj} {es : Array DictEntry} {ep : Nat}, s₁.heap.get? b = some o → o.data = .dict es ep → H b = none := fun {b o es ep} e d => clear e (fun xs n z => by rw [d] at z; cases z) fun z => by rw [d] at z; cases z
  have names : ∀ {b : Addr} {m : Str → Option Value}, s₁.heap.Ns b m → (hidT s₁.heap H).Ns b m := fun {b m} h => by
    obtain ⟨o, es, ep, e, d, r⟩ := h
    exact ⟨o, es, ep, hid e (dicts e d), d, r⟩
  have kin : K.In (hidT s₁.heap H) := fun b o e => by
    refine hid (KX b o e) ?_
    rcases q : H b with _ | u
    · rfl
    · rcases isA q with rfl | ⟨t, ht, rfl⟩
      · rw [hK (by rw [q]; exact fun z => nomatch z)] at e; cases e
      · rw [(hT t ht).out] at e; cases e
  obtain ⟨mc, l1, l2⟩ := hlim
  have md : Mod K mg (hidT s₁.heap H) := ⟨kin, names hns, ⟨mb, names hb, hbb⟩, mc, names l1, l2⟩
  have tbs : ∀ t ∈ ts, LamX.TabB (hidT s₁.heap H) mg t.c t.P := fun t ht => by
    have ok := hT t ht
    refine ⟨?_, ?_, fun z => ?_⟩
    · obtain ⟨o, us, file, tf, flags, tg, inF, text, tt, e1, r1, r2, r3, r⟩ := ok.hd
      refine ⟨o, us, file, tf, flags, tg, inF, text, tt, hid e1 (clear e1 (fun xs n z => by rw [r2] at z; cases z) fun z => ?_), r1, r2, r3, r⟩
      rw [r2] at z
      cases z
      cases r3
    · obtain ⟨bm, ob, b1, b2, b3, b4, b5, b6⟩ := hM
      refine ⟨bm, ob, b1, b2, fun q => ?_, fun q => ?_, hid b3 (clear b3 (fun xs n z => by rw [b6] at z; cases z) fun z => by rw [b6] at z; cases z), b4, b5, b6⟩
      · obtain ⟨o, es, ep, e, d, _⟩ := hns
        rw [q, e] at b3; cases b3
        rw [d] at b6; cases b6
      · rw [q, ok.emp] at b3; cases b3; cases b6
    · obtain ⟨o, es, ep, e, d, _⟩ := hns
      rw [z, ok.emp] at e; cases e; cases d
  have e0 : Env0 P w K mg (hidT s₁.heap H) callerA [] s₁ H := ⟨rfl, md, fun b o e => of_hidT e, Nat.le_of_eq (hidT_size _ _), trivial, fun b z => (nomatch z), hok, .of_eq hg⟩
  have FF := F _ kin (names hns) tbs
  have tb : TabsG ⟨K, mg, tabsOf ts⟩ H := fun p hp => by
    obtain ⟨t, ht, rfl⟩ := List.mem_map.mp hp
    exact LamX.TabS.nil (hH t ht)
  refine codeAny_mono (FF.run callerA [] s₁ H ⟨[.ref a], []⟩ [.ref a] [.ref a] [.scr ns] NT (fun v _ => v = .bl true) (fun _ _ _ => False) hr rfl e0 tb (hbind s₁ (.ref a)) (.cons rfl .nil) (.one ⟨a, rfl, hS⟩) rfl
    ((FF.mono _).run (fun r z v H' s' r' _ => by rw [z] at r'; exact r') (fun _ z => z.elim) hsem)) fun r s' h => ?_
  cases r with
  | error e => exact (cx_never h).elim
  | ok fl =>
    cases fl with
    | ret u =>
      obtain ⟨v, H', os, bare, un, hok', r', q⟩ := h
      cases (show v = .bl true from q)
      cases (show u = Value.bool true from r')
      have grown : ∀ t ∈ ts, ∃ more : Array Value, s'.heap.get? t.P = some { cls := .none, data := .fields more } := fun t ht => by
        obtain ⟨more, z⟩ := un.tbls t.P #[] (hH t ht)
        exact ⟨_, hok' t.P _ z⟩
      have same : ∀ b o, (¬ ∃ t ∈ ts, b = t.P) → s₁.heap.get? b = some o → s'.heap.get? b = some o := fun b o nt e => by
        rcases hO b with z | z | ⟨ob, xs, z⟩
        · exact un.keep b o e z (fun y => nomatch y) fun y => nomatch y
        · exact absurd z nt
        · have e1 := (show ObjOk P w H s₁.heap b (.frz ob (.lst xs)) from hok b _ z).1
          have e2 := (show ObjOk P w H' s'.heap b (.frz ob (.lst xs)) from hok' b _ (un.frzs b ob _ z)).1
          rw [e] at e1
          cases e1
          exact e2
      refine ⟨rfl, ⟨fun b o e => ?_, fun b o e => ?_⟩, os, bare⟩
      · by_cases c : ∃ t ∈ ts, b = t.P
        · obtain ⟨t, ht, rfl⟩ := c
          obtain ⟨more, hm⟩ := grown t ht
          have ok := hT t ht
          rw [ok.emp] at e
          cases e
          exact .inr (.inl ⟨(ok.hd.tab ok.emp).isCodeTable, rfl, #[], more, rfl, by rw [Array.empty_append]; exact hm⟩)
        · exact .inl (same b o c e)
      · by_cases c : ∃ t ∈ ts, b = t.P
        · obtain ⟨t, ht, rfl⟩ := c
          obtain ⟨more, hm⟩ := grown t ht
          exact ⟨_, hm⟩
        · exact ⟨o, same b o c e⟩
    | _ => exact False.elim h
open Classical in
theorem end_call {P : Program} {w : World} {K : PySem.W.Frag} {mg mb : Str → Option Value} {k : Nat} {fa a : Addr} {fd : FuncData} {x : Str} {sem : List D → Rt} {s₁ : Shared} {vs : List Value} {ns : List Int} {ts : List Tb}
    (KX : K.In s₁.heap) (hns : s₁.heap.Ns mainGlobals mg) (hb : s₁.heap.Ns builtinsNs mb) (hbb : ∀ x : Str, x ≠ "__name__" → mb x = bootBuiltins x) (hlim : s₁.heap.NoLimit) (hg : s₁.gens = #[]) (hT : ∀ t ∈ ts, TbOk K s₁.heap t) (hM : MainB mg s₁.heap)
    (ha : s₁.heap.get? a = some { cls := .type "list", data := .seq vs.toArray }) (hi : IntsAre vs ns) (hl : ns.length ≤ sizeLine) (hr : Room k callerA)
    (F : ∀ base : Heap, K.In base → base.Ns mainGlobals mg → (∀ t ∈ ts, LamX.TabB base mg t.c t.P) → FnD P w ⟨K, mg, tabsOf ts⟩ base k fa fd [x] sem) (hbind : ∀ (s : Shared) (u : Value), BindsTo s fd ⟨[u], []⟩ [(x, u)])
    (hsem : sem [.scr ns] (fun r => r.2 = .bl true) fun _ => False) :
    codeAny (model P w) callerA (.call (.ref fa) ⟨[.ref a], []⟩) (fun r s' => r = .ok (.ret (.bool true)) ∧ OldK s₁.heap s'.heap ∧ s'.os = s₁.os ∧ AllBare s'.gens) s₁ := by
  have rv := vals_ints hi
  have aT : ∀ t ∈ ts, t.P ≠ a := fun t ht z => by
    have e := (hT t ht).emp
    rw [z, ha] at e
    cases e
  -- the script at a: U, or nothing
  have key : ∀ U : Option HO, (∀ u, U = some u → ∃ o xs, u = .frz o (.lst xs) ∧ ObjOk P w (fun b => if b = a then U else if ∃ t ∈ ts, b = t.P then some (.tbl #[]) else none) s₁.heap a u) →
      ScrAt K (fun b => if b = a then U else if ∃ t ∈ ts, b = t.P then some (.tbl #[]) else none) a ns → (U ≠ none → K.lookup a = none) →
      codeAny (model P w) callerA (.call (.ref fa) ⟨[.ref a], []⟩) (fun r s' => r = .ok (.ret (.bool true)) ∧ OldK s₁.heap s'.heap ∧ s'.os = s₁.os ∧ AllBare s'.gens) s₁ := fun U hU hS hK => by
    refine end_core (ts := ts) KX hns hb hbb hlim hg hT hM ha hr F hbind hsem (fun t ht => ?_) (fun b => ?_) hS (fun b u z => ?_) (fun b z => ?_) (fun z => hK (by simpa using z))
    · show (if t.P = a then U else _) = _
      rw [if_neg (aT t ht), if_pos ⟨t, ht, rfl⟩]
    · by_cases c : b = a
      · rcases e : U with _ | u
        · exact .inl (by rw [if_pos c])
        · obtain ⟨o, xs, rfl, _⟩ := hU u e
          exact .inr (.inr ⟨o, xs, by rw [if_pos c]⟩)
      · by_cases d : ∃ t ∈ ts, b = t.P
        · exact .inr (.inl d)
        · exact .inl (by rw [if_neg c, if_neg d])
    · by_cases c : b = a
      · subst c
        have z : U = some u := by simpa using z
        obtain ⟨o, xs, rfl, h⟩ := hU u z
        exact h
      · by_cases d : ∃ t ∈ ts, b = t.P
        · have z' : some (HO.tbl #[]) = some u := by rw [if_neg c, if_pos d] at z; exact z
          cases z'
          obtain ⟨t, ht, rfl⟩ := d
          exact (hT t ht).emp
        · rw [if_neg c, if_neg d] at z; cases z
    · by_cases c : b = a
      · exact .inl c
      · by_cases d : ∃ t ∈ ts, b = t.P
        · exact .inr d
        · exact absurd (by rw [if_neg c, if_neg d]) z
  rcases hk : K.lookup a with _ | o
  · refine key (some (.frz { cls := .type "list", data := .seq vs.toArray } (.lst (ns.map V.int)))) (fun u e => ?_) (.inl ⟨_, if_pos rfl⟩) fun _ => hk
    cases e
    exact ⟨_, _, rfl, ha, by rw [List.length_map]; exact hl, vs, _, rv, ha⟩
  · have e := KX a o hk
    rw [ha] at e
    cases e
    have hv := rv.length
    rw [List.length_map] at hv
    exact key none (fun u e => nomatch e) (.inr ⟨_, vs.toArray, _, hk, rfl, rfl, rfl, by rw [List.size_toArray]; omega, rv⟩) fun z => absurd rfl z
theorem end_walk {l : PySem.W.OpenLaw} {n k : Nat} {q : Program} {loose : List Str} {XP : (Str → Option Value) → Heap → Prop} {YP : World → Heap → Prop} {d : DefRec} {K : Params → PySem.W.Frag} {x : Str} {sem : List D → Rt} (xs : List Str)
    (hn : l.most = some n) (hn2 : n ≤ sizeLine) (hdf : d.params.defaults = []) (hr : Room k callerA) (hY : ∀ (w : World) (h : Heap), YP w h → (K w.params).In h) (hrec : (xs.all fun x => ((recsOf q).find? (fun e => e.name == x)).isSome) = true)
    (F : ∀ (w : World) (mg : Str → Option Value) (fa : Addr) (h : Heap), (K w.params).In h → h.Ns mainGlobals mg → mg d.name = some (.ref fa) →
      ∃ (fd : FuncData) (ts : List Tb), (∀ t ∈ ts, ∃ x ∈ xs, PySem.W.tabIn (K w.params) x = some (t.c, t.P) ∧ (K w.params).lookup t.P = none) ∧ (∀ (s : Shared) (u : Value), BindsTo s fd ⟨[u], []⟩ [(x, u)]) ∧ ∀ base : Heap, (K w.params).In base → base.Ns mainGlobals mg → (∀ t ∈ ts, LamX.TabB base mg t.c t.P) → FnD l.prog w ⟨K w.params, mg, tabsOf ts⟩ base k fa fd [x] sem)
    (hsem : ∀ ns : List Int, ns.length ≤ n → sem [.scr ns] (fun r => r.2 = .bl true) fun _ => False) :
    PySem.W.WalkO q loose XP YP l.row.toRowW d [] (fun f vs => PySem.call f vs) := by
  refine Att.attach_callB hn hdf fun w s₀ s₁ mg mb fa o pm cd doc a vs ns G Y ho hd hcd hmg hobj hints hlen _ hg => ?_
  obtain ⟨fd, ts, hts, hb, hF⟩ := F w mg fa _ (hY w _ Y) G.T.g hmg
  refine end_call (ts := ts) (hY w _ Y) G.T.g G.T.b G.T.builtins G.T.nolimit hg (fun t ht => ?_) G.T.bmain hobj hints (Nat.le_trans hlen hn2) hr hF hb (hsem ns hlen)
  obtain ⟨x, hx, e, n⟩ := hts t ht
  obtain ⟨d', hd'⟩ := Option.isSome_iff_exists.mp (List.all_eq_true.mp hrec x hx)
  obtain ⟨c1, c2⟩ := PySem.W.tab_of G.T (hY w _ Y) hd' e
  exact ⟨c2, n, c1⟩
end Fb
end

section
set_option Elab.async false
set_option linter.all false
set_option maxRecDepth 100000
set_option maxHeartbeats 4000000
/-! xs[::-1] -/
namespace Fb
open PySem PySem.Spec PyProof.Rows L2
theorem pick_range : ∀ (n : Nat) (l : List Value), l.length = n → (List.range n).filterMap (fun k => l[k]?) = l := by
  intro n
  induction n with
  | zero => intro l h; cases l with
    | nil => rfl
    | cons a r => cases h
  | succ n ih =>
    intro l h
    cases l with
    | nil => cases h
    | cons a r =>
      rw [List.range_succ_eq_map, List.filterMap_cons]
      show a :: _ = _
      rw [List.filterMap_map]
      congr 1
      exact ih r (by simpa using h)
theorem fm_congr {α β : Type} {f g : α → Option β} : ∀ {l : List α}, (∀ x ∈ l, f x = g x) → l.filterMap f = l.filterMap g
  | [], _ => rfl
  | x :: r, h => by
    rw [List.filterMap_cons, List.filterMap_cons, h x List.mem_cons_self, fm_congr fun y hy => h y (List.mem_cons_of_mem _ hy)]
theorem pick_rev (its : List Value) : slicePick its.toArray none none (some (-1)) = its.reverse.toArray := by
  have hb : sliceBounds none none (some (-1)) its.toArray.size = ((its.length : Int) - 1, -1, -1) := by
    simp [sliceBounds]
  unfold slicePick
  rw [hb]
  show ((sliceRange ((its.length : Int) - 1) (-1) (-1)).filterMap (its.toArray[·]?)).toArray = _
  have hr : sliceRange ((its.length : Int) - 1) (-1) (-1) = (List.range its.length).map fun (k : Nat) => its.length - 1 - k := by
    unfold sliceRange
    have hc : (if (-1 : Int) > 0 then (if (its.length : Int) - 1 < -1 then (-1 - ((its.length : Int) - 1) + -1 - 1) / -1 else 0) else (if (its.length : Int) - 1 > -1 then ((its.length : Int) - 1 - -1 - -1 - 1) / (- -1) else 0)).toNat = its.length := by
      rw [if_neg (by decide)]
      by_cases h : (its.length : Int) - 1 > -1
      · rw [if_pos h]
        have : ((its.length : Int) - 1 - -1 - -1 - 1) / (- -1) = its.length := by
          rw [show (- -1 : Int) = 1 from rfl, Int.ediv_one]
          omega
        rw [this]
        rfl
      · rw [if_neg h]
        omega
    show (List.range _).map _ = _
    rw [hc]
    apply List.map_congr_left
    intro k hk
    have := List.mem_range.mp hk
    omega
  rw [hr, List.filterMap_map]
  congr 1
  have : (List.range its.length).filterMap ((its.toArray[·]?) ∘ fun (k : Nat) => its.length - 1 - k) = (List.range its.length).filterMap fun k => its.reverse[k]? := by
    apply fm_congr
    intro k hk
    have h := List.mem_range.mp hk
    show its.toArray[its.length - 1 - k]? = _
    rw [List.getElem?_reverse h]
    simp
  rw [this]
  exact pick_range _ _ (by simp)
section
variable {G : Wd} {X : Cx} {Wx : WX}
theorem pe_rev {e st : Expr} {te : TE} {ts : TO} {p2 pos : Pos} (he : PE X e te) (hs : PO X (some st) ts) : PE X (.Subscript e (.Slice none none (some st) p2) pos) (fun σ H Q => te σ H fun x H1 => ts σ H1 fun o H2 => o = some (-1) ∧ ∃ a xs, x = .ref a ∧ SqL X.K H2 a xs ∧ ∀ p, H2 p = none → Q (.ref p) (upd H2 p (.lst xs.reverse))) := by
  refine ⟨fun pins s σ H Q I h => ?_⟩
  refine Subscript_ (thn (he.run pins s σ H _ I h) fun v s1 ⟨x, H1, I1, r1, q1⟩ => ?_)
  refine wpAny_Slice ?_
  rw [evalPart_none]
  refine wpAny_pure (wpAny_pure (thn (hs.run pins s1 σ H1 _ I1 q1) fun vs s2 ⟨o, H2, I2, po, ho, a, xs, ex, hq, q⟩ => ?_))
  subst ho ex
  cases r1
  have I3 : Inv X pins σ H2 { s2 with heap := s2.heap.push { cls := .type "slice", data := .fields #[.none, .none, vs] } } := I2.kept (t' := s2.toks) fun b ob q => Heap.get?_push_of_some _ q
  obtain ⟨its, r, ht, hz⟩ := I3.list hq
  have hlen := r.length
  refine tail_any (ops := [.ref a, .ref s2.heap.objs.size]) ht.isList.typeIs PySem.F.slot_list_getitem.lookup ?_ (by with_unfolding_all rfl)
  refine wpAny_getItem_list_slice ht.isList (Heap.IsSliceOf.new ..) .none .none po (by decide) ?_ (by rw [List.size_toArray]; omega)
  rw [pick_rev]
  refine ⟨.ref _, _, I3.laid (t' := s2.toks) (o := .lst xs.reverse) (fun b ob q => Heap.get?_push_of_some _ q) (Nat.le_refl _) ?_, rfl, q _ (I3.hok.fresh (Nat.le_refl _))⟩
  exact ⟨by rw [List.length_reverse]; exact hz, its.reverse, 0, r.reverse, Heap.get?_push_size _ rfl⟩
theorem Reps.reverse {N : Addr → Prop} {H : Hp} : ∀ {ds : List D} {vs : List V}, Reps G N H ds vs → Reps G N H ds.reverse vs.reverse
  | [], _, h => by rw [show _ = [] from h]; exact rfl
  | d :: ds, _, ⟨w, ws, e, r, rs⟩ => by
    subst e
    rw [List.reverse_cons, List.reverse_cons]
    exact (Reps.reverse rs).app (.one r)
def mRev (m : Ro → W Ex D) (s : Ro → W Ex (Option Int)) : Ro → W Ex (Bool × D) := fun ρ => W.bind (m ρ) fun d => W.bind (s ρ) fun o => if o = some (-1) then W.got (asL d) fun ds => W.ret (true, .lst ds.reverse) else W.fail
theorem dr_rev {e st : Expr} {m : Ro → W Ex D} {n : Ro → W Ex (Option Int)} {p2 pos : Pos} (he : DE G X Wx e m) (hs : DO G X Wx (some st) n) : DR G X Wx (.Subscript e (.Slice none none (some st) p2) pos) (mRev m n) := by
  refine DR.imp (fun ρ => (he.mono ρ).bind fun d => (hs.mono ρ).bind fun _ => ite_mono (got_mono fun _ => W.Mono.ret) W.Mono.fail) (pe_rev he.pe hs.po) fun N ρ σ H Q r q => ?_
  refine he.go r q (fun x z => z) fun d v H1 z s1 r1 rr1 => ?_
  refine ⟨N, ρ, rr1, (hs.mono ρ).run (fun o z H2 s2 => ?_) (fun x z => z.step s1) z⟩
  obtain ⟨ho, z⟩ := ite_ret z
  obtain ⟨ds, hd, z⟩ := got_inv z
  rw [asL_inv hd] at r1
  obtain ⟨a, vs, rfl, na, ha, rs⟩ := r1
  exact ⟨ho, a, vs, rfl, .of (s2.at ha), fun p hp => new_lst (rs.same s2).reverse (PoR.step (h := z) (s1.trans s2)) p hp⟩
end
end Fb
end

section
set_option Elab.async false
set_option linter.all false
set_option maxRecDepth 100000
set_option maxHeartbeats 4000000
/-! A new box of draws. -/
namespace Fb
open PySem PySem.Spec PyProof.Rows L2
def sem__law_deal : List D → Rt
  | [.scr ns] => if ns.length ≤ 63 then W.ret (false, .box 0) else W.fail
  | _ => W.fail
theorem sem_deal_mono (ds : List D) : W.Mono (sem__law_deal ds) := by
  unfold sem__law_deal
  split
  · exact ite_mono W.Mono.ret W.Mono.fail
  · exact W.Mono.fail
theorem sem_deal_inv {ds : List D} {Q : Bool × D → Prop} {E : Ex → Prop} (h : sem__law_deal ds Q E) : ∃ ns : List Int, ds = [.scr ns] ∧ ns.length ≤ 63 ∧ Q (false, .box 0) := by
  unfold sem__law_deal at h
  split at h
  · obtain ⟨h1, h2⟩ := ite_ret h
    exact ⟨_, rfl, h1, h2⟩
  · exact h.elim
theorem Reps.asInts {G : Wd} {N : Addr → Prop} {H : Hp} : ∀ {ns : List Int} {vs : List V}, Reps G N H (ns.map D.int) vs → vs = ns.map V.int
  | [], _, h => h
  | n :: r, _, ⟨w, ws, e, rw', rs⟩ => by rw [e, show w = V.int n from rw', Reps.asInts rs]; rfl
/-- the lists of the box become loosely known -/
theorem HOk.loose {P : Program} {w : World} {H : Hp} {h : Heap} {a b : Addr} {cells : List Int} {m : Int} (ok : HOk P w H h) (ne : a ≠ b) (ha : H a = some (.lst [.ref b, .int m])) (hb : H b = some (.lst (cells.map V.int))) (hl : cells.length ≤ 100) :
    HOk P w (upd (upd H b (.ext (boxB b))) a (.ext (boxA a b))) h := by
  obtain ⟨_, itb, nb, rb, eb⟩ := (show ObjOk P w H h b (.lst (cells.map V.int)) from ok b _ hb)
  obtain ⟨_, ita, na, ra, ea⟩ := (show ObjOk P w H h a (.lst [.ref b, .int m]) from ok a _ ha)
  have o1 : HOk P w (upd H b (.ext (boxB b))) h := HOk.write (x := b) (e := b) ok (by rw [hb]; trivial) (.inl rfl) (fun _ _ _ q => q) ⟨_, eb⟩ ⟨⟨cells, itb, nb, hl, rb, eb⟩, ⟨_, eb⟩, fun h1 h2 ⟨ns, its, n, hl, r, e⟩ k => ⟨ns, its, n, hl, r, k _ e⟩⟩
  exact HOk.write (x := a) (e := a) o1 (by rw [upd_ne ne, ha]; trivial) (.inl rfl) (fun _ _ _ q => q) ⟨_, ea⟩ ⟨⟨m, ita, na, ra, ea⟩, ⟨_, ea⟩, fun h1 h2 ⟨m, its, n, r, e⟩ k => ⟨m, its, n, r, k _ e⟩⟩
theorem Un.loose {fs : List Addr} {H H' : Hp} {h h' : Heap} {a b : Addr} {ua ub va vb : HO} (u : Un fs [] H H' h h') (ha : H' a = some ua) (hb : H' b = some ub) (na : H a = none) (nb : H b = none) : Un fs [] H (upd (upd H' b vb) a va) h h' := by
  have neq : ∀ c o, H c = some o → c ≠ a ∧ c ≠ b := fun c o e => ⟨fun z => (by rw [z, na] at e; cases e), fun z => (by rw [z, nb] at e; cases e)⟩
  refine ⟨u.keep, u.slot, fun c o e n hx => ?_, u.there, fun c xs e => ?_, fun c o x e => ?_, fun c ps e => ?_⟩
  · have z := u.free c o e n hx
    have ca : c ≠ a := fun y => by rw [y, ha] at z; cases z
    have cb : c ≠ b := fun y => by rw [y, hb] at z; cases z
    rw [upd_ne ca, upd_ne cb]; exact z
  · rw [upd_ne (neq c _ e).1, upd_ne (neq c _ e).2]; exact u.tups c xs e
  · rw [upd_ne (neq c _ e).1, upd_ne (neq c _ e).2]; exact u.frzs c o x e
  · rw [upd_ne (neq c _ e).1, upd_ne (neq c _ e).2]; exact u.tbls c ps e
theorem box_of {P : Program} {w : World} {G : Wd} {base : Heap} {k : Nat} {x p : Str} {sem : List D → Rt} (F : FnK P w G base k x [p] sem)
    (hs : ∀ (ns : List Int), ns.length ≤ 63 → ∀ (Q : Bool × D → Prop) (E : Ex → Prop), (∀ (cells : List Int) (m : Int), cells.length ≤ 100 → Q (true, .lst [.lst (cells.map D.int), .int m])) → sem [.scr ns] Q E) : FnK P w G base k x [p] sem__law_deal := by
  obtain ⟨f, fd, h1, h2, h3, F⟩ := F.ex
  refine ⟨f, fd, h1, h2, h3, ⟨fun A outer s H args us vs ds N Q E hr hg e0 tb hb rv rd hl q => ?_, sem_deal_mono⟩⟩
  obtain ⟨ns, rfl, hns, q⟩ := sem_deal_inv q
  obtain ⟨v, rfl, a0, rfl, hsc⟩ := rd.one_inv
  have go := F.run A outer s H args us [.ref a0] [.scr ns] (fun _ => False) (fun v H' => ∃ (a b : Addr) (cells : List Int) (m : Int), v = .ref a ∧ a ≠ b ∧ H a = none ∧ H b = none ∧ H' a = some (.lst [.ref b, .int m]) ∧ H' b = some (.lst (cells.map V.int)) ∧ cells.length ≤ 100 ∧ Same G H H') (fun _ _ _ => False) hr hg e0 tb hb rv (.one ⟨a0, rfl, hsc⟩) hl
    (hs ns hns _ _ fun cells m hc v H' s' r' f' => by
      obtain ⟨a, vs, ev, n, hv, v1, ws, e1, ⟨b, ws2, e2, n2, hb2, rb⟩, v2, ws3, e3, rm, e4⟩ := r'
      subst e1 e2 e3
      obtain rfl : v2 = .int m := rm
      rw [show ws3 = [] from e4] at hv
      rw [rb.asInts] at hb2
      have na : H a = none := n.elim (fun z => z.elim) id
      have nb : H b = none := n2.elim (fun z => z.elim) id
      refine ⟨a, b, cells, m, ev, fun z => ?_, na, nb, hv, hb2, hc, s'⟩
      subst z
      rw [hv] at hb2
      cases cells with
      | nil => cases hb2
      | cons c r => cases hb2)
  refine codeAny_mono go fun r s' h => ?_
  cases r with
  | error e => exact (cx_never h).elim
  | ok fl =>
    cases fl with
    | ret u =>
      obtain ⟨v, H', os, bare, un, hok, r', a, b, cells, m, rfl, ne, na, nb, ha, hb', hc, sm⟩ := h
      refine ⟨.ref a, _, os, bare, Un.loose (va := .ext (boxA a b)) (vb := .ext (boxB b)) un ha hb' na nb, HOk.loose hok ne ha hb' hc, r', q (.ref a) _ (Same.updN (Same.updN sm nb (.inr ⟨_, hb', trivial⟩)) na (.inr ⟨_, (upd_ne ne).trans ha, trivial⟩)) ⟨a, rfl, ?_⟩ fun z => nomatch z⟩
      · exact (show BoxAt _ 0 a from ⟨b, ne, upd_same, by rw [upd_ne ne.symm, upd_same]⟩)
    | _ => exact False.elim h
end Fb
end

section
set_option Elab.async false
set_option linter.all false
set_option maxRecDepth 100000
set_option maxHeartbeats 4000000
/-! Programs over data, run: loops and blocks. -/
namespace Fb
open PySem PySem.Spec PyProof.Rows L2
/-- a block whose parts are plain -/
theorem lcN_map {p : D → Option (List (Nat × D))} {c : Ro → W Ex Bool} {e : Ro → W Ex D} {ρ : Ro} (t : D → Bool) (f : D → D) : ∀ {xs : List D}, (∀ x ∈ xs, ∃ bs, p x = some bs ∧ c (setR ρ bs) = W.ret (t x) ∧ (t x = true → e (setR ρ bs) = W.ret (f x))) → lcN p c e ρ xs = W.ret ((xs.filter t).map f)
  | [], _ => rfl
  | x :: xs, h => by
    obtain ⟨bs, h1, h2, h3⟩ := h x List.mem_cons_self
    have ih := lcN_map t f (xs := xs) fun y hy => h y (List.mem_cons_of_mem _ hy)
    unfold lcN
    rw [h1]
    show (W.bind (W.calm (c (setR ρ bs))) fun b => if b = true then W.bind (W.calm (e (setR ρ bs))) fun y => W.bind (lcN p c e ρ xs) fun ys => W.ret (y :: ys) else lcN p c e ρ xs) = _
    rw [h2, ih]
    show (if t x = true then W.bind (W.calm (e (setR ρ bs))) fun y => W.bind (W.ret ((xs.filter t).map f)) fun ys => W.ret (y :: ys) else W.ret ((xs.filter t).map f)) = _
    cases ht : t x with
    | true =>
      rw [if_pos rfl, h3 ht, List.filter_cons, if_pos ht]
      rfl
    | false =>
      rw [if_neg Bool.false_ne_true, List.filter_cons, if_neg (by rw [ht]; exact Bool.false_ne_true)]
/-- .. without tests -/
theorem lcN_all {p : D → Option (List (Nat × D))} {e : Ro → W Ex D} {ρ : Ro} (f : D → D) {xs : List D} (h : ∀ x ∈ xs, ∃ bs, p x = some bs ∧ e (setR ρ bs) = W.ret (f x)) : lcN p mYes e ρ xs = W.ret (xs.map f) := by
  rw [lcN_map (fun _ => true) f fun x hx => let ⟨bs, h1, h2⟩ := h x hx; ⟨bs, h1, rfl, fun _ => h2⟩]
  congr 2
  exact List.filter_eq_self.mpr fun _ _ => rfl
/-- a loop by what stays true: I of the items left and the slots -/
theorem forN_inv {p : D → Option (List (Nat × D))} {b : En → WS} (hb : ∀ ρ, W.Mono (b ρ)) {Q : Fl × En → Prop} {E : Ex × En → Prop} (I : List D → En → Prop)
    (step : ∀ d ds ρ, I (d :: ds) ρ → ∃ bs, p d = some bs ∧ b (setE ρ bs) (fun q => (q.1 = .nx ∨ q.1 = .ct) ∧ I ds q.2) fun _ => False) (done : ∀ ρ, I [] ρ → Q (.nx, ρ)) : ∀ {ds : List D} {ρ : En}, I ds ρ → forN p b ds ρ Q E
  | [], ρ, h => done ρ h
  | d :: ds, ρ, h => by
    obtain ⟨bs, h1, h2⟩ := step d ds ρ h
    unfold forN
    rw [h1]
    refine (hb _).run (fun q z => ?_) (fun _ z => z.elim) h2
    obtain ⟨f, ρ'⟩ := q
    obtain ⟨hf, hi⟩ := z
    rcases hf with hf | hf
    · cases hf; exact forN_inv hb I step done hi
    · cases hf; exact forN_inv hb I step done hi
theorem cutD_ints (ns : List Int) (lo hi : Option Int) : ∃ l : List Int, cutD (ns.map D.int) lo hi = l.map D.int ∧ l.length ≤ ns.length := by
  refine ⟨(ns.drop (HT.sIx (ns.map D.int).length 0 lo)).take (HT.sIx (ns.map D.int).length (ns.map D.int).length hi - HT.sIx (ns.map D.int).length 0 lo), ?_, ?_⟩
  · unfold cutD
    rw [List.map_take, List.map_drop]
  · rw [List.length_take, List.length_drop]; omega
end Fb
end

section
set_option Elab.async false
set_option linter.all false
set_option maxRecDepth 100000
set_option maxHeartbeats 4000000
/-! The box of two numbers: opened, drawn from, closed. -/
namespace Fb
open PySem PySem.Spec PyProof.Rows L2
section
variable {X : Cx}
/-- the box within: its numbers; all else as in H -/
structure BoxIC (G : Wd) (H : Hp) (a : Addr) (H' : Hp) (i m : Int) : Prop where
  ha : H' a = some (.lst [.int i, .int m])
  rest : ∀ c o, c ≠ a → H c = some o → (∀ ps, o ≠ .tbl ps) → H' c = some o
  fre : ∀ c, H' c = none → H c = none
  tb : TabsG G H'
variable {H H' H'' : Hp} {a : Addr} {i m k : Int}
variable {G : Wd}
theorem BoxIC.same (x : BoxIC G H a H' i m) (h1 : H a = some (.ext (boxC a))) : Same G H (upd H' a (.ext (boxC a))) := ⟨fun c o e n => by
  by_cases ca : c = a
  · subst ca; rw [upd_same]; rw [h1] at e; exact e
  · rw [upd_ne ca]; exact x.rest c o ca e n, fun c e => x.fre c (upd_none_ne e).2, fun _ => tabs_upd x.tb (.inr ⟨_, x.ha, lst_no⟩)⟩
theorem BoxIC.step (x : BoxIC G H a H' i m) (s : Same G H' H'') : BoxIC G H a H'' i m := ⟨s.at x.ha, fun c o h1 e n => s.at (x.rest c o h1 e n) n, fun c e => x.fre c (s.free e), s.tab x.tb⟩
theorem BoxIC.set (x : BoxIC G H a H' i m) {i' m' : Int} : BoxIC G H a (upd H' a (.lst [.int i', .int m'])) i' m' := ⟨upd_same, fun c o h1 e n => by rw [upd_ne h1]; exact x.rest c o h1 e n, fun c e => x.fre c (upd_none_ne e).2, tabs_upd x.tb (.inr ⟨_, x.ha, lst_no⟩)⟩
def boxCD (i m : Int) : D := .lst [.int i, .int m]
theorem BoxIC.rep (x : BoxIC G H a H' i m) : Rep G NT H' (boxCD i m) (.ref a) := ⟨a, _, rfl, trivial, x.ha, .int i, _, rfl, rfl, .int m, [], rfl, rfl, rfl⟩
end
/-! ### a draw -/
section
variable (k1 k2 k3 k4 k5 k6 k7 k8 : Int)
end
section
variable {G : Wd} {K : PySem.W.Frag} {Wx : WX} {H H' : Hp} {a : Addr} {i m k : Int} {σ : Fb.St} {k1 k2 k3 k4 k5 k6 k7 k8 : Int}
theorem BoxIC.er (x : BoxIC G H a H' i m) (h0 : σ[0]? = some (some (.ref a))) (h1 : σ[1]? = some (some (.int k))) : ERel G NT H' σ [some (boxCD i m), some (.int k)] := ⟨x.tb, fun j d e => by
  match j, e with
  | 0, e => cases e; exact ⟨_, h0, x.rep⟩
  | 1, e => cases e; exact ⟨_, h1, rfl⟩⟩
end
/-! ### a new box -/
end Fb
end

section
set_option Elab.async false
set_option linter.all false
set_option maxRecDepth 100000
set_option maxHeartbeats 4000000
/-! An expression on its own; is True; t * n; a cell of the script. -/
namespace Fb
open PySem PySem.Spec PyProof.Rows L2
section
variable {G : Wd} {X : Cx} {Wx : WX}
theorem Reps.rep {N : Addr → Prop} {H : Hp} {ds : List D} {vs : List V} (r : Reps G N H ds vs) : ∀ n : Nat, Reps G N H (List.replicate n ds).flatten (List.replicate n vs).flatten
  | 0 => rfl
  | n + 1 => by
    rw [List.replicate_succ, List.replicate_succ, List.flatten_cons, List.flatten_cons]
    exact r.app (Reps.rep r n)
end
end Fb
end

section
set_option Elab.async false
set_option linter.all false
set_option maxRecDepth 100000
set_option maxHeartbeats 4000000
/-! Walks over new dicts; {k: v}; xs[i] = e. -/
namespace Fb
open PySem PySem.Spec PyProof.Rows L2
section
variable {G : Wd} {X : Cx} {Wx : WX}
theorem RepK.get {N : Addr → Prop} {H : Hp} : ∀ {kvs : List (Key × D)} {ks : List (Key × V)} {i : Nat} {k : Key} {d : D}, RepK G N H kvs ks → kvs[i]? = some (k, d) → ∃ v, ks[i]? = some (k, v) ∧ Rep G N H d v
  | [], _, i, k, d, h, e => by simp at e
  | (k', d') :: kvs, _, 0, k, d, ⟨w, ws, e, r, _⟩, q => by subst e; simp at q; obtain ⟨rfl, rfl⟩ := q; exact ⟨w, rfl, r⟩
  | (k', d') :: kvs, _, i + 1, k, d, ⟨w, ws, e, _, rs⟩, q => by
    subst e
    obtain ⟨v, h1, h2⟩ := RepK.get (i := i) rs (by simpa using q)
    exact ⟨v, by simpa using h1, h2⟩
theorem RepK.len {N : Addr → Prop} {H : Hp} : ∀ {kvs : List (Key × D)} {ks : List (Key × V)}, RepK G N H kvs ks → ks.length = kvs.length
  | [], _, h => by rw [show _ = [] from h]; rfl
  | (_, _) :: kvs, _, ⟨w, ws, e, _, rs⟩ => by rw [e, List.length_cons, List.length_cons, RepK.len rs]
theorem Reps.set {N : Addr → Prop} {H : Hp} : ∀ {ds : List D} {vs : List V} {j : Nat} {d : D} {v : V}, Reps G N H ds vs → Rep G N H d v → Reps G N H (ds.set j d) (vs.set j v)
  | [], _, j, d, v, h, _ => by rw [show _ = [] from h]; exact rfl
  | _ :: ds, _, 0, d, v, ⟨w, ws, e, _, rs⟩, r => by subst e; exact ⟨v, ws, rfl, r, rs⟩
  | _ :: ds, _, j + 1, d, v, ⟨w, ws, e, r', rs⟩, r => by subst e; exact ⟨w, ws.set j v, rfl, r', Reps.set rs r⟩
end
end Fb
namespace Fb
open PySem PySem.Spec PyProof.Rows L2
end Fb
end

section
set_option Elab.async false
set_option linter.all false
set_option maxRecDepth 100000
set_option maxHeartbeats 4000000
/-! sep.join(xs), x.split(sep); C.m(..), m a classmethod; c(..), c a local. -/
namespace Fb
open PySem PySem.Spec PyProof.Rows L2
section
variable {G : Wd} {X : Cx} {Wx : WX}
end
/-! ### classmethods -/
open ClX (CRead CMet getmethcm_ok callwith_cm base_none pin_at unpinE)
section
variable {P : Program} {w : World} {G : Wd} {base : Heap} {k j : Nat} {X : Cx} {Wx : WX}
end
end Fb
end

section
set_option Elab.async false
set_option linter.all false
set_option maxRecDepth 100000
set_option maxHeartbeats 4000000
/-! list(d.items()), list(range(..)), repr(x), dict(xs). -/
namespace Fb
open PySem PySem.Spec PyProof.Rows L2
section
variable {G : Wd} {X : Cx} {Wx : WX}
/-! ### list(range(..)) -/
instance (a b : Int) : Decidable (RgOk a b) := by unfold RgOk; exact inferInstance
/-! ### repr -/
def shownOk (p : PyData) : Bool := p.showable && !p.hasDict && isDisplay p && decide (p.depth ≤ 60) && decide (p.shown.length ≤ sizeLine)
def gRepr : List D → Rt
  | [.bl b] => W.ret (false, .str (if b then "True" else "False"))
  | [.lst xs] => W.got (D.lst xs).py fun p => if shownOk p = true then W.ret (false, .str p.shown) else W.fail
  | [.tup xs] => W.got (D.tup xs).py fun p => if shownOk p = true then W.ret (false, .str p.shown) else W.fail
  | _ => W.fail
theorem gRepr_mono (ds : List D) : W.Mono (gRepr ds) := by
  unfold gRepr
  split <;> first | exact W.Mono.ret | exact got_mono fun _ => ite_mono W.Mono.ret W.Mono.fail | exact W.Mono.fail
theorem bl_repr (Z : X.K = G.K) (hg : X.A.guards = some []) (hu : X.A.units + 65 < cLine) : CallR X (.builtin "repr") (rD G gRepr) := by
  intro pins s σ H xs us Q I r h
  obtain ⟨N, ds, rr, q⟩ := h
  have main : ∀ (d : D) (v : V) (u : Value) (a : Addr) (p : PyData), Rep G N H d v → RelV v u → v = .ref a → d.py = some p → shownOk p = true → PoR G N H Q (false, .str p.shown) → wpAny (model X.prog X.w) X.A (call (.builtin "repr") [u]) (EP X pins σ Q) X.xe s := by
    intro d v u a p rd rv ev hp ok z
    unfold shownOk at ok
    simp only [Bool.and_eq_true, decide_eq_true_eq, Bool.not_eq_true'] at ok
    obtain ⟨⟨⟨⟨h1, h2⟩, h3⟩, h4⟩, h5⟩ := ok
    obtain ⟨as, re⟩ := Dp.reads I p v u (Z ▸ rd.dp hp) rv
    subst ev
    obtain rfl : u = Value.ref a := rv
    refine repr_of_reads' re h1 (fun e => by rw [h2] at e; cases e) hg (by omega) (fun _ _ e => e) (fun h' w tk hk => ?_) h5
    exact ⟨.str p.shown, H, I.kept (t' := tk) hk, ⟨w, rfl⟩, z (.str p.shown) H (Same.refl H) rfl fun y => nomatch y⟩
  unfold gRepr at q
  split at q
  · rename_i b
    obtain ⟨v, rfl, r1⟩ := rr.one_inv
    obtain ⟨u, rfl, rv⟩ := vals1 r
    obtain rfl : v = .bl b := r1
    obtain rfl : u = Value.bool b := rv
    refine P.repr_of_bool ?_
    exact ⟨.str (if b then "True" else "False"), H, I.kept (t' := s.toks + 1) fun _ _ e => e, ⟨_, rfl⟩, q (.str (if b then "True" else "False")) H (Same.refl H) rfl fun y => nomatch y⟩
  · rename_i xs
    obtain ⟨p, hp, q⟩ := got_inv q
    obtain ⟨ok, q⟩ := ite_ret q
    obtain ⟨v, rfl, r1⟩ := rr.one_inv
    obtain ⟨u, rfl, rv⟩ := vals1 r
    obtain ⟨a, vs, ev, n, ha, rs⟩ := r1
    exact main (.lst xs) v u a p ⟨a, vs, ev, n, ha, rs⟩ rv ev hp ok q
  · rename_i xs
    obtain ⟨p, hp, q⟩ := got_inv q
    obtain ⟨ok, q⟩ := ite_ret q
    obtain ⟨v, rfl, r1⟩ := rr.one_inv
    obtain ⟨u, rfl, rv⟩ := vals1 r
    obtain ⟨a, vs, ev, ha, rs⟩ := r1
    exact main (.tup xs) v u a p ⟨a, vs, ev, ha, rs⟩ rv ev hp ok q
  · exact q.elim
/-! ### dict of pairs -/
end
end Fb
namespace Fb
open PySem PySem.Spec PyProof.Rows L2
end Fb
end

section
set_option Elab.async false
set_option linter.all false
set_option maxRecDepth 100000
set_option maxHeartbeats 4000000
/-! for a, b in zip(xs, ys); [.. for k, v in d.items()] of a dict in a slot. -/
namespace Fb
open PySem PySem.Spec PyProof.Rows L2
section
variable {G : Wd} {X : Cx} {Wx : WX}
def zipD (xs ys : List D) : List D := (xs.zip ys).map fun q => .tup [q.1, q.2]
def zippedD : List D → W Ex (List D)
  | [.lst xs, .lst ys] => W.ret (zipD xs ys)
  | [.tup xs, .tup ys] => W.ret (zipD xs ys)
  | [.lst xs, .tup ys] => W.ret (zipD xs ys)
  | [.tup xs, .lst ys] => W.ret (zipD xs ys)
  | _ => W.fail
def mZip (m : Ro → W Ex (List D)) : Ro → W Ex (List D) := fun ρ => W.bind (m ρ) zippedD
/-! ### items of a dict in a slot, in a comprehension -/
end
end Fb
end

section
set_option Elab.async false
set_option linter.all false
set_option maxRecDepth 100000
set_option maxHeartbeats 4000000
/-! Loops and dict blocks over the items of a dict in a slot. -/
namespace Fb
open PySem PySem.Spec PyProof.Rows L2
section
variable {G : Wd} {X : Cx} {Wx : WX}
/-! ### dict blocks over items -/
end
end Fb
end

section
set_option Elab.async false
set_option linter.all false
set_option maxRecDepth 100000
set_option maxHeartbeats 4000000
/-! Lambdas handed to a def, called there. -/
namespace Fb
open PySem PySem.Spec PyProof.Rows L2
/-- the function that a lambda makes -/
abbrev lamNF (q : Str) (params : Arguments) (scope : Scope) (cl : List (Str × Addr)) (c : Addr) : NdefX.NF := ⟨"<lambda>", q, params, [], scope, cl, c⟩
/-- a def's code object at c; in its table stand code objects of the name q -/
structure LamAt (G : Wd) (base : Heap) (c : Addr) (q : Str) : Prop where
  ex : ∃ P, LamX.TabB base G.mg c P ∧ (P, q) ∈ G.tabs ∧ ∀ p ∈ G.tabs, p.1 = P → p.2 = q
section
variable {G : Wd} {X : Cx} {pins : List (Addr × Obj)} {σ : Fb.St} {H : Hp} {s : Shared}
end
/-! ### what a function is to whoever calls it -/
/-- the function k, made by the time of s0: called at any later time it does what L tells of the arguments and of what its captured names hold -/
structure Asks (P : Program) (w : World) (G : Wd) (base : Heap) (kk : Nat) (k : Clo) (L : List D → Rt) (n : Nat) (s0 : Shared) (H0 : Hp) : Prop where
  mono : ∀ ds, W.Mono (L ds)
  fn : ∀ (fs : List Addr) (s : Shared) (H : Hp), Un fs [] H0 H s0.heap s.heap → HOk P w H s.heap → PySem.W.FnAt k.f s.heap
  run : ∀ (fs : List Addr) (A : Around) (outer : List Env) (s : Shared) (H : Hp) (us : List Value) (vs : List V) (ds cs : List D) (N : Addr → Prop) (Q : VK) (E : XK), Room kk A → A.guards = some [] → Env0 P w G.K G.mg base A outer s H → TabsG G H → Un fs [] H0 H s0.heap s.heap →
    Vals vs us → Reps G N H ds vs → vs.length = n → H k.c = some (LamX.CodeO k.c k.q) → Reps G N H cs k.ws →
    L (ds ++ cs) (PoR G N H Q) (fun x => ∀ c dd H', Same G H H' → XRep G (Fr N H) H' x c dd → E c dd H') → codeAny (model P w) A (.call (.ref k.f) ⟨us, []⟩) (CR (CX P w) outer P w H s Q E) s
theorem Asks.up {P : Program} {w : World} {G : Wd} {base : Heap} {j kk : Nat} {k : Clo} {L : List D → Rt} {n : Nat} {s0 : Shared} {H0 : Hp} (a : Asks P w G base j k L n s0 H0) (h : j ≤ kk) : Asks P w G base kk k L n s0 H0 :=
  ⟨a.mono, a.fn, fun fs A outer s H us vs ds cs N Q E hr => a.run fs A outer s H us vs ds cs N Q E (hr.mono h)⟩
section
variable {P : Program} {w : World} {G : Wd} {base : Heap} {k j : Nat} {X : Cx} {Wx : WX} {k0 : Clo} {L : List D → Rt} {n : Nat}
end
/-! ### defs that take a function, last -/
/-- cs: what the function's captured names hold -/
structure FnL (P : Program) (w : World) (G : Wd) (base : Heap) (k j : Nat) (f : Addr) (fd : FuncData) (ps : List Str) (n : Nat) (sem : (List D → Rt) → List D → List D → Rt) : Prop where
  run : ∀ (A : Around) (outer : List Env) (s : Shared) (H : Hp) (args : Args) (us : List Value) (vs : List V) (ds cs : List D) (N : Addr → Prop) (Q : VK) (E : XK) (k0 : Clo) (L : List D → Rt), Room k A → A.guards = some [] → Env0 P w G.K G.mg base A outer s H → TabsG G H → Asks P w G base j k0 L n s H →
    BindsTo s fd args (ps.zip us) → Vals (vs ++ [.ref k0.f]) us → Reps G N H ds vs → vs.length + 1 = ps.length → H k0.c = some (LamX.CodeO k0.c k0.q) → Reps G N H cs k0.ws →
    sem L cs ds (PoR G N H Q) (fun x => ∀ c dd H', Same G H H' → XRep G (Fr N H) H' x c dd → E c dd H') → codeAny (model P w) A (.call (.ref f) args) (CR (CX P w) outer P w H s Q E) s
  mono : ∀ L, (∀ ds, W.Mono (L ds)) → ∀ cs ds, W.Mono (sem L cs ds)
/-- such a def of the module -/
structure FnKL (P : Program) (w : World) (G : Wd) (base : Heap) (k j : Nat) (x : Str) (ps : List Str) (n : Nat) (sem : (List D → Rt) → List D → List D → Rt) : Prop where
  ex : ∃ (f : Addr) (fd : FuncData), G.mg x = some (.ref f) ∧ PySem.W.keepIn G.K (.ref f) = true ∧ Binds G.K fd ps [] ∧ FnL P w G base k j f fd ps n sem
/-! ### a lambda's body -/
/-- what is told of a lambda's text and names -/
structure LamTxt (X : Cx) (Nl ps fr : List Str) (js : List Nat) (params : Arguments) (scope : Scope) : Prop where
  sc : NdefX.NScope Nl ps fr scope
  nd : NdefX.ndefB X.env.scope scope fr = true
  js : js.map (fun j => X.N[j]?) = fr.map some
  df : defaultsOf params X.env = ([], [])
  bd : ∀ (body : Expr) (q : Str) (cl : List (Str × Addr)) (pm cv ctv : Value) (us : List Value), us.length = ps.length → bindArgs (PySem.W.kla_fn "<lambda>" q params body scope cl pm cv ctv) ⟨us, []⟩ = pure (ps.zip us)
section
variable {P : Program} {w : World} {G : Wd} {base : Heap} {k : Nat} {X : Cx} {Wx : WX} {pins : List (Addr × Obj)} {σ : Fb.St} {H : Hp} {s : Shared} {N : Addr → Prop} {ρ : Ro}
abbrev cxL (P : Program) (w : World) (G : Wd) (base : Heap) (Nl : List Str) (F : NdefX.NF) (f : Addr) (A : Around) (outer : List Env) (s : Shared) (H : Hp) (E : XK) : Cx := NdefX.ncx (L2.CX P w) P w G.K G.mg base Nl F f A outer s H E
/-- the body of a lambda as an expression, wherever it runs -/
def LamBody (P : Program) (w : World) (G : Wd) (base : Heap) (k : Nat) (q : Str) (Nl : List Str) (params : Arguments) (body : Expr) (scope : Scope) (mb : Ro → W Ex (Bool × D)) : Prop :=
  ∀ (cl : List (Str × Addr)) (c' f : Addr) (A : Around) (outer : List Env) (s : Shared) (H : Hp) (E : XK), Cz P w G base k (cxL P w G base Nl (lamNF q params scope cl c') f A outer s H E) (wxD E) → DR G (cxL P w G base Nl (lamNF q params scope cl c') f A outer s H E) (wxD E) body mb
/-! ### calls that hand a lambda over, last -/
section
variable {kF kL : Nat} {c : Addr} {x : Str} {gps : List Str} {n : Nat} {sem : (List D → Rt) → List D → List D → Rt} {Nl ps fr : List Str} {js : List Nat} {params : Arguments} {body : Expr} {scope : Scope} {p lpos pos : Pos} {mb : Ro → W Ex (Bool × D)}
/-- the body's reading is monotone -/
theorem LamBody.mono {q : Str} (B : LamBody P w G base kL q Nl params body scope mb) (hk : kL ≤ 100) (r : Ro) : W.Mono (mb r) := (B [] 0 0 A0 [] {} (fun _ => none) (fun _ _ _ => True) ⟨rfl, rfl, rfl, rfl, rfl, room0 hk, rfl, takes_of rfl rfl rfl rfl⟩).mono r
end
end
/-! ### defs that make lambdas; the tables told -/
structure TbIn (ts : List Tb) (c : Addr) (q : Str) : Prop where
  ex : ∃ t ∈ ts, t.c = c ∧ t.q = q ∧ ∀ u ∈ ts, u.P = t.P → u.q = q
abbrev TbAll (G : Wd) (base : Heap) (ts : List Tb) : Prop := ∀ t ∈ ts, LamX.TabB base G.mg t.c t.P
theorem TbIn.at {G : Wd} {base : Heap} {ts : List Tb} {c : Addr} {q : Str} (h : TbIn ts c q) (e : G.tabs = tabsOf ts) (B : TbAll G base ts) : LamAt G base c q := by
  obtain ⟨t, ht, rfl, hq, hu⟩ := h.ex
  refine ⟨t.P, B t ht, by rw [e, ← hq]; exact List.mem_map.mpr ⟨t, ht, rfl⟩, fun p hp z => ?_⟩
  rw [e] at hp
  obtain ⟨u, hu', rfl⟩ := List.mem_map.mp hp
  exact hu u hu' z
def tbsOk (ts : List Tb) : Bool := ts.all fun t => ts.all fun u => !decide (u.P = t.P) || decide (u.q = t.q)
end Fb
end

section
set_option Elab.async false
set_option linter.all false
set_option maxRecDepth 100000
set_option maxHeartbeats 4000000
/-! Running a program over data: what is known of the slots, one rule a construct. -/
namespace Fb
open PySem PySem.Spec PyProof.Rows L2
/-- what is known of an expression's slots -/
structure RK (n : Nat) (R : Ro) (l : List (Nat × D)) : Prop where
  len : R.length = n
  get : ∀ i d, l.lookup i = some d → R[i]? = some (some d)
/-- what is known of a statement's slots; true: held alone for certain -/
structure EK (n : Nat) (ρ : En) (l : List (Nat × Bool × D)) : Prop where
  len : ρ.length = n
  get : ∀ i b d, l.lookup i = some (b, d) → ∃ b', ρ[i]? = some (some (b', d)) ∧ (b = true → b' = true)
def roK : List (Nat × Bool × D) → List (Nat × D)
  | [] => []
  | (i, _, d) :: r => (i, d) :: roK r
def seeK (fz : List Nat) : List (Nat × Bool × D) → List (Nat × D)
  | [] => []
  | (i, _, d) :: r => bif fz.contains i then (i, d) :: seeK fz r else seeK fz r
def frzK (fz : List Nat) : List (Nat × Bool × D) → List (Nat × Bool × D)
  | [] => []
  | (i, b, d) :: r => (i, (bif fz.contains i then false else b), d) :: frzK fz r
theorem roFrom_get : ∀ {ρ : En} {i : Nat} {b : Bool} {d : D}, ρ[i]? = some (some (b, d)) → (roFrom ρ)[i]? = some (some d)
  | [], _, _, _, h => by simp at h
  | none :: r, 0, _, _, h => by simp at h
  | some (b, d') :: r, 0, _, _, h => by simp at h; simp [roFrom, h.2]
  | none :: r, i + 1, b, d, h => by
    have := roFrom_get (ρ := r) (i := i) (b := b) (d := d) (by simpa using h)
    simpa [roFrom] using this
  | some (b', d') :: r, i + 1, b, d, h => by
    have := roFrom_get (ρ := r) (i := i) (b := b) (d := d) (by simpa using h)
    simpa [roFrom] using this
theorem roFrom_len : ∀ {ρ : En}, (roFrom ρ).length = ρ.length
  | [] => rfl
  | none :: r => congrArg (· + 1) (roFrom_len (ρ := r))
  | some (_, _) :: r => congrArg (· + 1) (roFrom_len (ρ := r))
theorem seeFrom_get {fz : List Nat} : ∀ {ρ : En} {k i : Nat} {b : Bool} {d : D}, ρ[i]? = some (some (b, d)) → fz.contains (k + i) = true → (seeFrom fz k ρ)[i]? = some (some d)
  | [], _, _, _, _, h, _ => by simp at h
  | none :: r, _, 0, _, _, h, _ => by simp at h
  | some (b', d') :: r, k, 0, b, d, h, hc => by
    simp at h
    have hc : fz.contains k = true := hc
    have e : (b' && !fz.contains k) = false := by rw [hc]; cases b' <;> rfl
    show ((if (b' && !fz.contains k) = true then none else some d') :: seeFrom fz (k + 1) r)[0]? = _
    rw [e, h.2]; rfl
  | none :: r, k, i + 1, b, d, h, hc => by
    have := seeFrom_get (fz := fz) (ρ := r) (k := k + 1) (i := i) (b := b) (d := d) (by simpa using h) (by rw [Nat.add_assoc, Nat.add_comm 1 i]; exact hc)
    simpa [seeFrom] using this
  | some (b', d') :: r, k, i + 1, b, d, h, hc => by
    have := seeFrom_get (fz := fz) (ρ := r) (k := k + 1) (i := i) (b := b) (d := d) (by simpa using h) (by rw [Nat.add_assoc, Nat.add_comm 1 i]; exact hc)
    simpa [seeFrom] using this
theorem seeFrom_len {fz : List Nat} : ∀ {ρ : En} {k : Nat}, (seeFrom fz k ρ).length = ρ.length
  | [], _ => rfl
  | none :: r, k => congrArg (· + 1) (seeFrom_len (ρ := r) (k := k + 1))
  | some (_, _) :: r, k => congrArg (· + 1) (seeFrom_len (ρ := r) (k := k + 1))
theorem frzFrom_get {fz : List Nat} : ∀ {ρ : En} {k i : Nat} {b : Bool} {d : D}, ρ[i]? = some (some (b, d)) → (frzFrom fz k ρ)[i]? = some (some (b && !(fz.contains (k + i)), d))
  | [], _, _, _, _, h => by simp at h
  | none :: r, _, 0, _, _, h => by simp at h
  | some (b', d') :: r, k, 0, b, d, h => by simp at h; simp [frzFrom, h.1, h.2]
  | none :: r, k, i + 1, b, d, h => by
    have := frzFrom_get (fz := fz) (ρ := r) (k := k + 1) (i := i) (b := b) (d := d) (by simpa using h)
    rw [Nat.add_assoc, Nat.add_comm 1 i] at this
    simpa [frzFrom] using this
  | some (b', d') :: r, k, i + 1, b, d, h => by
    have := frzFrom_get (fz := fz) (ρ := r) (k := k + 1) (i := i) (b := b) (d := d) (by simpa using h)
    rw [Nat.add_assoc, Nat.add_comm 1 i] at this
    simpa [frzFrom] using this
theorem roK_look : ∀ {l : List (Nat × Bool × D)} {i : Nat} {d : D}, (roK l).lookup i = some d → ∃ b, l.lookup i = some (b, d)
  | [], _, _, h => by simp [roK] at h
  | (j, b, d') :: r, i, d, h => by
    simp only [roK, List.lookup_cons] at h ⊢
    by_cases e : (i == j) = true
    · simp only [e] at h ⊢; exact ⟨b, by rw [Option.some.inj h]⟩
    · simp only [Bool.not_eq_true] at e
      simp only [e] at h ⊢
      exact roK_look h
theorem seeK_look {fz : List Nat} : ∀ {l : List (Nat × Bool × D)} {i : Nat} {d : D}, (seeK fz l).lookup i = some d → (∃ b, l.lookup i = some (b, d)) ∧ fz.contains i = true
  | [], _, _, h => by simp [seeK] at h
  | (j, b, d') :: r, i, d, h => by
    simp only [seeK] at h
    by_cases e : (i == j) = true
    · have ej : i = j := by simpa using e
      subst ej
      cases hc : fz.contains i with
      | true =>
        rw [hc] at h
        simp only [cond_true, List.lookup_cons, e] at h
        exact ⟨⟨b, by simp only [List.lookup_cons, e]; rw [Option.some.inj h]⟩, rfl⟩
      | false =>
        rw [hc] at h
        have := (seeK_look (l := r) h).2
        rw [hc] at this
        cases this
    · simp only [Bool.not_eq_true] at e
      have h' : (seeK fz r).lookup i = some d := by
        cases hc : fz.contains j with
        | true => rw [hc] at h; simpa only [cond_true, List.lookup_cons, e] using h
        | false => rw [hc] at h; exact h
      obtain ⟨⟨b', h1⟩, h2⟩ := seeK_look h'
      exact ⟨⟨b', by simp only [List.lookup_cons, e]; exact h1⟩, h2⟩
theorem frzK_look {fz : List Nat} : ∀ {l : List (Nat × Bool × D)} {i : Nat} {b : Bool} {d : D}, (frzK fz l).lookup i = some (b, d) → ∃ b', l.lookup i = some (b', d) ∧ (b = true → b' = true ∧ fz.contains i = false)
  | [], _, _, _, h => by simp [frzK] at h
  | (j, b', d') :: r, i, b, d, h => by
    simp only [frzK, List.lookup_cons] at h ⊢
    by_cases e : (i == j) = true
    · simp only [e] at h ⊢
      have ej : i = j := by simpa using e
      subst ej
      simp only [Option.some.injEq, Prod.mk.injEq] at h
      refine ⟨b', by rw [h.2], fun hb => ?_⟩
      rw [hb] at h
      cases hc : fz.contains i with
      | true => rw [hc] at h; exact nomatch h.1
      | false => rw [hc] at h; exact ⟨h.1, rfl⟩
    · simp only [Bool.not_eq_true] at e
      simp only [e] at h ⊢
      exact frzK_look h
theorem mem_look {α : Type} : ∀ {l : List (Nat × α)} {i : Nat} {x : α}, l.lookup i = some x → (i, x) ∈ l
  | [], _, _, h => by simp at h
  | (j, y) :: r, i, x, h => by
    rw [List.lookup_cons] at h
    by_cases q : (i == j) = true
    · simp only [q] at h
      have : i = j := by simpa using q
      rw [this, Option.some.inj h]; exact List.mem_cons_self
    · simp only [Bool.not_eq_true] at q
      simp only [q] at h
      exact List.mem_cons_of_mem _ (mem_look h)
section
variable {n : Nat} {ρ : En} {l : List (Nat × Bool × D)}
theorem EK.ro (h : EK n ρ l) : RK n (ro ρ) (roK l) := ⟨roFrom_len.trans h.len, fun i d e => by
  obtain ⟨b, e⟩ := roK_look e
  obtain ⟨b', e', _⟩ := h.get i b d e
  exact roFrom_get e'⟩
theorem EK.see (h : EK n ρ l) (fz : List Nat) : RK n (see fz ρ) (seeK fz l) := ⟨seeFrom_len.trans h.len, fun i d e => by
  obtain ⟨⟨b, e⟩, hc⟩ := seeK_look e
  obtain ⟨b', e', _⟩ := h.get i b d e
  exact seeFrom_get e' (by rw [Nat.zero_add]; exact hc)⟩
theorem EK.frz (h : EK n ρ l) (fz : List Nat) : EK n (frz fz ρ) (frzK fz l) := ⟨frzFrom_len.trans h.len, fun i b d e => by
  obtain ⟨b0, e, hb⟩ := frzK_look e
  obtain ⟨b', e', h'⟩ := h.get i b0 d e
  refine ⟨_, frzFrom_get e', fun z => ?_⟩
  obtain ⟨z1, z2⟩ := hb z
  rw [h' z1, Nat.zero_add, z2]; rfl⟩
theorem EK.set (h : EK n ρ l) {i : Nat} (hi : i < n) (p : Bool × D) : EK n (ρ.set i (some p)) ((i, p) :: l) := ⟨by rw [List.length_set]; exact h.len, fun j b d e => by
  simp only [List.lookup_cons] at e
  by_cases q : (j == i) = true
  · simp only [q] at e
    have : j = i := by simpa using q
    subst this
    rw [Option.some.inj e]
    exact ⟨b, by rw [List.getElem?_set_self (by rw [h.len]; exact hi)], id⟩
  · simp only [Bool.not_eq_true] at q
    simp only [q] at e
    have ne : i ≠ j := fun z => by rw [z] at q; simp at q
    rw [List.getElem?_set_ne ne]
    exact h.get j b d e⟩
theorem EK.asg (h : EK n ρ l) (fz : List Nat) {i : Nat} (hi : i < n) (r : Bool × D) : EK n (Fb.asg fz i r ρ) ((i, r) :: frzK fz l) := by
  unfold Fb.asg
  by_cases z : (if r.1 = true then immTop r.2 else imm r.2) = true
  · rw [if_pos z]
    refine EK.set ?_ hi r
    refine ⟨h.len, fun j b d e => ?_⟩
    obtain ⟨b0, e, hb⟩ := frzK_look e
    obtain ⟨b', e', h'⟩ := h.get j b0 d e
    exact ⟨b', e', fun y => h' (hb y).1⟩
  · rw [if_neg z]
    exact (h.frz fz).set hi r
theorem EK.asgI (h : EK n ρ l) (fz : List Nat) {i : Nat} (hi : i < n) {r : Bool × D} (z : (if r.1 = true then immTop r.2 else imm r.2) = true) : EK n (Fb.asg fz i r ρ) ((i, r) :: l) := by
  unfold Fb.asg
  rw [if_pos z]
  exact h.set hi r
/-- what is known less well -/
theorem EK.sub (h : EK n ρ l) {l' : List (Nat × Bool × D)} (hl : ∀ x ∈ l', ∃ b, l.lookup x.1 = some (b, x.2.2) ∧ (x.2.1 = true → b = true)) : EK n ρ l' := ⟨h.len, fun i b d e => by
  obtain ⟨b0, e0, h0⟩ := hl (i, b, d) (mem_look e)
  obtain ⟨b', e', h'⟩ := h.get i b0 d e0
  exact ⟨b', e', fun z => h' (h0 z)⟩⟩
theorem EK.nil (h : ρ.length = n) : EK n ρ [] := ⟨h, fun i b d e => nomatch e⟩
theorem EK.cons (h : EK n ρ l) {l' : List (Nat × Bool × D)} {i : Nat} {b b0 : Bool} {d : D} (e : l.lookup i = some (b0, d)) (hb : b = true → b0 = true) (h' : EK n ρ l') : EK n ρ ((i, b, d) :: l') := ⟨h.len, fun j b1 d1 e1 => by
  simp only [List.lookup_cons] at e1
  by_cases q : (j == i) = true
  · simp only [q] at e1
    have : j = i := by simpa using q
    subst this
    cases e1
    obtain ⟨b', e', h2⟩ := h.get _ b0 d e
    exact ⟨b', e', fun z => h2 (hb z)⟩
  · simp only [Bool.not_eq_true] at q
    simp only [q] at e1
    exact h'.get j b1 d1 e1⟩
theorem init_get : ∀ (ds : List D) (m i : Nat) (d : D), ds[i]? = some d → (ds.map (fun d => some (false, d)) ++ List.replicate m (none : Option (Bool × D)))[i]? = some (some (false, d)) := fun ds m i d h => by
  rw [List.getElem?_append_left (by rw [List.length_map]; exact (List.getElem?_eq_some_iff.mp h).1), List.getElem?_map, h]; rfl
def initK (k : Nat) : List D → List (Nat × Bool × D)
  | [] => []
  | d :: ds => (k, false, d) :: initK (k + 1) ds
theorem initK_look : ∀ {ds : List D} {k i : Nat} {b : Bool} {d : D}, (initK k ds).lookup i = some (b, d) → b = false ∧ k ≤ i ∧ ds[i - k]? = some d
  | [], _, _, _, _, h => by simp [initK] at h
  | d' :: ds, k, i, b, d, h => by
    simp only [initK, List.lookup_cons] at h
    by_cases q : (i == k) = true
    · simp only [q] at h
      have : i = k := by simpa using q
      subst this
      cases h
      exact ⟨rfl, Nat.le_refl _, by simp⟩
    · simp only [Bool.not_eq_true] at q
      simp only [q] at h
      obtain ⟨h1, h2, h3⟩ := initK_look h
      refine ⟨h1, by omega, ?_⟩
      rw [show i - k = (i - (k + 1)) + 1 by omega]
      simpa using h3
theorem init_EK (n : Nat) (ds : List D) (h : ds.length ≤ n) : EK n (initEn n ds) (initK 0 ds) := ⟨by unfold initEn; rw [List.length_append, List.length_map, List.length_replicate]; omega, fun i b d e => by
  obtain ⟨rfl, _, h3⟩ := initK_look e
  exact ⟨false, init_get ds _ i d (by simpa using h3), id⟩⟩
end
/-! ### expressions -/
section
variable {n : Nat} {R : Ro} {l : List (Nat × D)} {E : Ex → Prop}
theorem r_nil {Q : List D → Prop} (q : Q []) : mNil R Q E := q
theorem r_cons {m : Ro → W Ex D} {k : Ro → W Ex (List D)} {Q : List D → Prop} (q : m R (fun d => k R (fun ds => Q (d :: ds)) E) E) : mCons m k R Q E := q
theorem r_star {m : Ro → W Ex D} {k : Ro → W Ex (List D)} {Q : List D → Prop} (q : m R (fun d => asSeq d (fun xs => k R (fun ds => Q (xs ++ ds)) E) E) E) : mStar m k R Q E := q
theorem r_op {g : D → D → W Ex D} {m k : Ro → W Ex D} {Q : D → Prop} (q : m R (fun a => k R (fun b => g a b Q fun _ => False) E) E) : mOp g m k R Q E := q
theorem r_opR {g : D → D → Rt} {m k : Ro → W Ex D} {Q : Bool × D → Prop} (q : m R (fun a => k R (fun b => g a b Q fun _ => False) E) E) : mOpR g m k R Q E := q
theorem r_test {m : Ro → W Ex D} {Q : Bool → Prop} (q : m R (fun d => asB d Q E) E) : mTest m R Q E := q
theorem r_asB {b : Bool} {Q : Bool → Prop} (q : Q b) : asB (.bl b) Q E := q
theorem r_not {m : Ro → W Ex Bool} {Q : Bool → Prop} (q : m R (fun b => Q (!b)) E) : mNot m R Q E := q
theorem r_notV {m : Ro → W Ex D} {Q : D → Prop} (q : m R (fun d => asB d (fun b => Q (.bl (!b))) E) E) : mNotV m R Q E := q
theorem r_and {m k : Ro → W Ex Bool} {Q : Bool → Prop} (q : m R (fun b => (if b = true then k R else W.ret false) Q E) E) : mAnd m k R Q E := q
theorem r_or {m k : Ro → W Ex Bool} {Q : Bool → Prop} (q : m R (fun b => (if b = true then W.ret true else k R) Q E) E) : mOr m k R Q E := q
theorem r_andV {m k : Ro → W Ex D} {Q : D → Prop} (q : m R (fun d => asB d (fun b => (if b = true then k R else W.ret (.bl false)) Q E) E) E) : mAndV m k R Q E := q
theorem r_orV {m k : Ro → W Ex D} {Q : D → Prop} (q : m R (fun d => asB d (fun b => (if b = true then W.ret (.bl true) else k R) Q E) E) E) : mOrV m k R Q E := q
theorem r_ifE {α : Type} {c : Ro → W Ex Bool} {m k : Ro → W Ex α} {Q : α → Prop} (q : c R (fun b => (if b = true then m R else k R) Q E) E) : mIfE c m k R Q E := q
theorem r_bind {α β ε : Type} {m : W ε α} {k : α → W ε β} {Q : β → Prop} {E : ε → Prop} (q : m (fun a => k a Q E) E) : W.bind m k Q E := q
theorem r_calm {α ε : Type} {m : W ε α} {Q : α → Prop} {E : ε → Prop} (q : m Q fun _ => False) : W.calm m Q E := q
theorem r_ret {α ε : Type} {a : α} {Q : α → Prop} {E : ε → Prop} (q : Q a) : (W.ret a : W ε α) Q E := q
theorem r_pos {α ε : Type} {c : Prop} [Decidable c] {m k : W ε α} {Q : α → Prop} {E : ε → Prop} (h : c) (h1 : m Q E) : (if c then m else k) Q E := by rw [if_pos h]; exact h1
theorem r_t {α ε : Type} {m k : W ε α} {Q : α → Prop} {E : ε → Prop} (h1 : m Q E) : (if true = true then m else k) Q E := by rw [if_pos rfl]; exact h1
theorem r_f {α ε : Type} {m k : W ε α} {Q : α → Prop} {E : ε → Prop} (h1 : k Q E) : (if false = true then m else k) Q E := by rw [if_neg Bool.false_ne_true]; exact h1
theorem r_tup {m : Ro → W Ex (List D)} {Q : D → Prop} (q : m R (fun ds => szd ds (W.ret (.tup ds)) Q E) E) : mTup m R Q E := q
theorem r_lst {m : Ro → W Ex (List D)} {Q : Bool × D → Prop} (q : m R (fun ds => szd ds (W.ret (true, .lst ds)) Q E) E) : mLst m R Q E := q
theorem r_szd {α : Type} {ds : List D} {m : W Ex α} {Q : α → Prop} (h : ds.length ≤ sizeLine) (q : m Q E) : szd ds m Q E := by
  unfold szd; rw [if_pos h]; exact q
theorem r_got {α β ε : Type} {o : Option α} {a : α} {k : α → W ε β} {Q : β → Prop} {E : ε → Prop} (h : o = some a) (q : k a Q E) : W.got o k Q E := by rw [h]; exact q
theorem r_de {m : Ro → W Ex (Bool × D)} {Q : D → Prop} (q : m R (fun r => Q r.2) E) : mDe m R Q E := q
theorem r_dr {m : Ro → W Ex D} {Q : Bool × D → Prop} (q : m R (fun d => Q (false, d)) E) : mDr m R Q E := q
theorem r_call {k : Nat} {sem : List D → Rt} {dds : List D} {m : Ro → W Ex (List D)} {Q : Bool × D → Prop} (q : m R (fun ds => (if (ds ++ dds).length = k then sem (ds ++ dds) else W.fail) Q E) E) : mCall k sem dds m R Q E := q
theorem r_callif {k : Nat} {sem : List D → Rt} {ds : List D} {Q : Bool × D → Prop} (h : ds.length = k) (q : sem ds Q E) : (if (ds ++ []).length = k then sem (ds ++ []) else W.fail) Q E := by
  rw [List.append_nil, if_pos h]; exact q
theorem r_meth {c mn : Str} {k : Nat} {sem : List D → Rt} {dds : List D} {m : Ro → W Ex D} {a : Ro → W Ex (List D)} {Q : Bool × D → Prop} (q : m R (fun d => W.got (asIns c d) (fun fs => if fs.lookup mn = none then W.bind (a R) fun ds => if (d :: (ds ++ dds)).length = k then sem (d :: (ds ++ dds)) else W.fail else W.fail) Q E) E) : mMeth c mn k sem dds m a R Q E := q
theorem r_methif {k : Nat} {sem : List D → Rt} {d : D} {ds : List D} {Q : Bool × D → Prop} (h : (d :: ds).length = k) (q : sem (d :: ds) Q E) : (if (d :: (ds ++ [])).length = k then sem (d :: (ds ++ [])) else W.fail) Q E := by
  rw [List.append_nil, if_pos h]; exact q
theorem r_prop {c : Str} {sem : List D → Rt} {m : Ro → W Ex D} {Q : Bool × D → Prop} (q : m R (fun d => W.got (asIns c d) (fun _ => W.calm (sem [d])) Q E) E) : mProp c sem m R Q E := q
theorem r_fld {c f : Str} {m : Ro → W Ex D} {Q : D → Prop} (q : m R (fun d => gFld c f d Q E) E) : mFld c f m R Q E := q
theorem r_blt {g : List D → Rt} {m : Ro → W Ex (List D)} {Q : Bool × D → Prop} (q : m R (fun ds => g ds Q fun _ => False) E) : mBlt g m R Q E := q
theorem r_slice {m : Ro → W Ex D} {lo hi : Ro → W Ex (Option Int)} {Q : Bool × D → Prop} (q : m R (fun d => lo R (fun a => hi R (fun b => gSl d a b Q E) E) E) E) : mSlice m lo hi R Q E := q
theorem r_walk {m : Ro → W Ex D} {Q : List D → Prop} (q : m R (fun d => walkD d Q E) E) : mWalk m R Q E := q
theorem r_enum {m : Ro → W Ex (List D)} {Q : List D → Prop} (q : m R (fun ds => enumD ds Q E) E) : mEnum m R Q E := q
theorem r_zip {m : Ro → W Ex (List D)} {Q : List D → Prop} (q : m R (fun ds => zippedD ds Q E) E) : mZip m R Q E := q
theorem r_rng1 {m : Ro → W Ex (List D)} {Q : List D → Prop} (q : m R (fun ds => rng1D ds Q E) E) : mRng1 m R Q E := q
/-- .. of an equation -/
theorem r_eq {α ε : Type} {m : W ε α} {a : α} (e : m = W.ret a) {Q : α → Prop} {E : ε → Prop} (q : Q a) : m Q E := by rw [e]; exact q
/-! blocks -/
theorem setR_len : ∀ {bs : List (Nat × D)} {R : Ro}, (setR R bs).length = R.length
  | [], _ => rfl
  | (i, d) :: r, R => (setR_len (bs := r)).trans (List.length_set ..)
theorem wipeR_len {R : Ro} : ∀ {vs : List Nat}, (wipeR R vs).length = R.length
  | [] => rfl
  | v :: vs => by show ((wipeR R vs).set v none).length = _; rw [List.length_set, wipeR_len]
theorem wipeR_else {R : Ro} {j : Nat} : ∀ {vs : List Nat}, vs.contains j = false → (wipeR R vs)[j]? = R[j]?
  | [], _ => rfl
  | v :: vs, h => by
    rw [List.contains_cons, Bool.or_eq_false_iff] at h
    show ((wipeR R vs).set v none)[j]? = _
    have ne : v ≠ j := fun z => by rw [z] at h; simp at h
    rw [List.getElem?_set_ne ne, wipeR_else h.2]
def keyL (bs : List (Nat × D)) : List Nat := bs.map (·.1)
theorem setR_else {j : Nat} : ∀ {bs : List (Nat × D)} {R : Ro}, (keyL bs).contains j = false → (setR R bs)[j]? = R[j]?
  | [], _, _ => rfl
  | (i, d) :: r, R, h => by
    unfold keyL at h
    rw [List.map_cons, List.contains_cons, Bool.or_eq_false_iff] at h
    have ne : i ≠ j := fun z => by rw [z] at h; simp at h
    show (setR (R.set i (some d)) r)[j]? = _
    rw [setR_else h.2, List.getElem?_set_ne ne]
def dupN : List Nat → Bool
  | [] => false
  | i :: r => r.contains i || dupN r
theorem setR_at {j : Nat} {d : D} : ∀ {bs : List (Nat × D)} {R : Ro}, dupN (keyL bs) = false → j < R.length → bs.lookup j = some d → (setR R bs)[j]? = some (some d)
  | [], _, _, _, h => by simp at h
  | (i, d') :: r, R, hn, hl, h => by
    have hn : ((keyL r).contains i || dupN (keyL r)) = false := hn
    rw [Bool.or_eq_false_iff] at hn
    show (setR (R.set i (some d')) r)[j]? = _
    rw [List.lookup_cons] at h
    by_cases q : (j == i) = true
    · simp only [q] at h
      have : j = i := by simpa using q
      subst this
      rw [setR_else hn.1, List.getElem?_set_self hl, Option.some.inj h]
    · simp only [Bool.not_eq_true] at q
      simp only [q] at h
      exact setR_at hn.2 (by rw [List.length_set]; exact hl) h
/-- the names of a block are bound -/
theorem RK.block (h : RK n R l) {vs : List Nat} {bs : List (Nat × D)} (hv : (vs.all fun v => (keyL bs).contains v) = true) (hn : dupN (keyL bs) = false) (hb : ((keyL bs).all fun i => decide (i < n)) = true) : RK n (setR (wipeR R vs) bs) (bs ++ l) := ⟨setR_len.trans (wipeR_len.trans h.len), fun j d e => by
  rw [List.lookup_append] at e
  rcases k : bs.lookup j with _ | d'
  · rw [k] at e
    have e : l.lookup j = some d := e
    have hc : (keyL bs).contains j = false := by
      have : ∀ bs : List (Nat × D), bs.lookup j = none → (keyL bs).contains j = false := by
        intro bs
        induction bs with
        | nil => intro _; rfl
        | cons x r ih =>
          intro k
          rw [List.lookup_cons] at k
          by_cases q : (j == x.1) = true
          · simp only [q] at k; cases k
          · simp only [Bool.not_eq_true] at q
            simp only [q] at k
            show ((j == x.1) || (keyL r).contains j) = false
            rw [q, ih k]; rfl
      exact this bs k
    rw [setR_else hc, wipeR_else]
    · exact h.get j d e
    · rw [Bool.eq_false_iff]
      intro z
      have := List.all_eq_true.mp hv j (by simpa using z)
      rw [hc] at this
      cases this
  · rw [k] at e
    have e : d' = d := by simpa using e
    subst e
    have hj : j < n := by
      have hm := mem_look k
      have := List.all_eq_true.mp hb j (List.mem_map.mpr ⟨_, hm, rfl⟩)
      exact of_decide_eq_true this
    exact setR_at hn (by rw [wipeR_len, h.len]; exact hj) k⟩
theorem r_lc {m : Ro → W Ex (List D)} {vs : List Nat} {p : D → Option (List (Nat × D))} {c : Ro → W Ex Bool} {e : Ro → W Ex D} {Q : Bool × D → Prop} (q : m R (fun ds => szd ds (W.bind (lcN p c e (wipeR R vs) ds) fun ys => W.ret (true, .lst ys)) Q E) E) : mLc m vs p c e R Q E := q
/-- m ends with a -/
def Ev {ε α : Type} (m : W ε α) (a : α) : Prop := ∀ Q E, Q a → m Q E
theorem Ev.run {ε α : Type} {m : W ε α} {a : α} (h : Ev m a) {Q : α → Prop} {E : ε → Prop} (q : Q a) : m Q E := h Q E q
theorem Ev.of {ε α : Type} {m : W ε α} {a : α} (h : m = W.ret a) : Ev m a := fun Q E q => by rw [h]; exact q
/-- what a block's names are bound to -/
structure Bnd (n : Nat) (vs : List Nat) (p : D → Option (List (Nat × D))) (d : D) (bs : List (Nat × D)) : Prop where
  eq : p d = some bs
  all : (vs.all fun v => (keyL bs).contains v) = true := by rfl
  dup : dupN (keyL bs) = false := by rfl
  lt : ((keyL bs).all fun i => decide (i < n)) = true := by rfl
theorem r_lcN {α : Type} (enc : α → D) {vs : List Nat} {p : D → Option (List (Nat × D))} {c : Ro → W Ex Bool} {e : Ro → W Ex D} (bs : α → List (Nat × D)) {t : α → Bool} {f : α → D} (hR : RK n R l) : ∀ (xs : List α),
    (∀ x ∈ xs, Bnd n vs p (enc x) (bs x) ∧ ∀ R', RK n R' (bs x ++ l) → Ev (c R') (t x) ∧ (t x = true → Ev (e R') (f x))) →
    ∀ {Q : List D → Prop}, Q ((xs.filter t).map f) → lcN p c e (wipeR R vs) (xs.map enc) Q E
  | [], _, Q, q => q
  | x :: xs, h, Q, q => by
    obtain ⟨⟨h1, h2, h3, h4⟩, h5⟩ := h x List.mem_cons_self
    have rest := fun {Q : List D → Prop} (q : Q ((xs.filter t).map f)) => r_lcN enc (vs := vs) (p := p) (c := c) (e := e) bs (t := t) (f := f) hR xs (fun y hy => h y (List.mem_cons_of_mem _ hy)) (Q := Q) q
    rw [List.map_cons]
    unfold lcN
    rw [h1]
    obtain ⟨hc, he⟩ := h5 _ (hR.block h2 h3 h4)
    refine hc _ _ ?_
    cases ht : t x with
    | true =>
      refine he ht _ _ ?_
      refine rest ?_
      rw [List.filter_cons, if_pos ht] at q
      exact q
    | false =>
      refine rest ?_
      rw [List.filter_cons, if_neg (by rw [ht]; exact Bool.false_ne_true)] at q
      exact q
/-- .. without tests -/
theorem r_lcY {α : Type} (enc : α → D) {vs : List Nat} {p : D → Option (List (Nat × D))} {e : Ro → W Ex D} (bs : α → List (Nat × D)) {f : α → D} (hR : RK n R l) (xs : List α)
    (h : ∀ x ∈ xs, Bnd n vs p (enc x) (bs x) ∧ ∀ R', RK n R' (bs x ++ l) → Ev (e R') (f x)) {Q : List D → Prop} (q : Q (xs.map f)) : lcN p mYes e (wipeR R vs) (xs.map enc) Q E :=
  r_lcN enc bs (t := fun _ => true) (f := f) hR xs (fun x hx => ⟨(h x hx).1, fun R' hR' => ⟨fun _ _ q => q, fun _ => (h x hx).2 R' hR'⟩⟩) (by rw [List.filter_eq_self.mpr fun _ _ => rfl]; exact q)
end
/-! ### statements -/
section
variable {n : Nat} {ρ : En} {l : List (Nat × Bool × D)} {Q : Fl × En → Prop} {E : Ex × En → Prop}
theorem r_seq {m k : En → WS} (q : m ρ (fun p => andThen k p Q E) E) : mSeq m k ρ Q E := q
theorem r_nx {k : En → WS} (q : k ρ Q E) : andThen k (.nx, ρ) Q E := q
theorem r_rt {k : En → WS} {r : Bool × D} (q : Q (.rt r, ρ)) : andThen k (.rt r, ρ) Q E := q
theorem r_skip (q : Q (.nx, ρ)) : mSkip ρ Q E := q
def SetK (fz : List Nat) (i : Nat) (r : Bool × D) (ρ : En) (Q : En → Prop) : Prop := Q (asg fz i r ρ)
theorem r_set {fz : List Nat} {i : Nat} {m : Ro → W Ex (Bool × D)} (h : EK n ρ l) (q : ∀ R, RK n R (seeK fz l) → m R (fun r => SetK fz i r ρ fun ρ' => Q (.nx, ρ')) (fun x => E (x, ρ))) : mSet fz i m ρ Q E := q _ (h.see fz)
theorem r_setI {fz : List Nat} {i : Nat} {r : Bool × D} {Q : En → Prop} (h : EK n ρ l) (z : (if r.1 = true then immTop r.2 else imm r.2) = true) (hi : i < n) (q : ∀ ρ', EK n ρ' ((i, r) :: l) → Q ρ') : SetK fz i r ρ Q := q _ (h.asgI fz hi z)
theorem r_retE {m : Ro → W Ex (Bool × D)} (h : EK n ρ l) (q : ∀ R, RK n R (roK l) → m R (fun r => Q (.rt r, ρ)) (fun x => E (x, ρ))) : mRet m ρ Q E := q _ h.ro
theorem r_if {c : Ro → W Ex Bool} {m k : En → WS} (h : EK n ρ l) (q : ∀ R, RK n R (roK l) → c R (fun b => (if b = true then m ρ else k ρ) Q E) (fun x => E (x, ρ))) : mIf c m k ρ Q E := q _ h.ro
def ForK (fz : List Nat) (p : D → Option (List (Nat × D))) (b : En → WS) (ds : List D) (ρ : En) (Q : Fl × En → Prop) (E : Ex × En → Prop) : Prop := forN p b ds (frz fz ρ) Q E
theorem r_for {fz : List Nat} {m : Ro → W Ex (List D)} {p : D → Option (List (Nat × D))} {b : En → WS} (h : EK n ρ l) (q : ∀ R, RK n R (seeK fz l) → m R (fun ds => ForK fz p b ds ρ Q E) (fun x => E (x, ρ))) : mFor fz m p b ρ Q E := q _ (h.see fz)
theorem setE_EK : ∀ {bs : List (Nat × D)} {ρ : En} {l : List (Nat × Bool × D)}, EK n ρ l → ((keyL bs).all fun i => decide (i < n)) = true → EK n (setE ρ bs) ((bs.map fun b => (b.1, false, b.2)).reverse ++ l)
  | [], _, _, h, _ => h
  | (i, d) :: r, ρ, l, h, hb => by
    unfold keyL at hb
    rw [List.map_cons, List.all_cons, Bool.and_eq_true] at hb
    have := setE_EK (bs := r) (h.set (of_decide_eq_true hb.1) (false, d)) hb.2
    rw [List.map_cons, List.reverse_cons, List.append_assoc]
    exact this
/-- the ends of a loop's turn -/
def LoopQ (I : En → Prop) (Q : Fl × En → Prop) : Fl × En → Prop
  | (.nx, ρ') => I ρ'
  | (.ct, ρ') => I ρ'
  | (.bk, ρ') => Q (.nx, ρ')
  | (.rt r, ρ') => Q (.rt r, ρ')
/-- going over a list with an invariant of what is done, what is left -/
theorem r_forN {α : Type} (enc : α → D) {p : D → Option (List (Nat × D))} {b : En → WS} (I : List α → List α → En → Prop)
    (hs : ∀ dn x rs ρ, I dn (x :: rs) ρ → ∃ bs, p (enc x) = some bs ∧ ∀ Q', (∀ q, LoopQ (I (dn ++ [x]) rs) Q q → Q' q) → b (setE ρ bs) Q' E) (hl : ∀ dn ρ, I dn [] ρ → Q (.nx, ρ)) : ∀ (xs dn : List α) (ρ : En), I dn xs ρ → forN p b (xs.map enc) ρ Q E
  | [], dn, ρ, h => hl dn ρ h
  | x :: xs, dn, ρ, h => by
    obtain ⟨bs, h1, h2⟩ := hs dn x xs ρ h
    rw [List.map_cons]
    unfold forN
    rw [h1]
    refine h2 _ fun q hq => ?_
    obtain ⟨f, ρ'⟩ := q
    cases f with
    | nx => exact r_forN enc I hs hl xs (dn ++ [x]) ρ' hq
    | ct => exact r_forN enc I hs hl xs (dn ++ [x]) ρ' hq
    | bk => exact hq
    | rt r => exact hq
/-- .. the invariant told by data and what is known of the slots -/
theorem r_forK {α β : Type} (enc : α → D) {fz : List Nat} {p : D → Option (List (Nat × D))} {b : En → WS} {xs : List α} (bs : α → List (Nat × D)) (J : List α → List α → β → Prop) (k : β → List (Nat × Bool × D)) (z : β) (h : EK n ρ l)
    (h0 : ∀ ρ', EK n ρ' (frzK fz l) → EK n ρ' (k z)) (j0 : J [] xs z)
    (hs : ∀ dn x rs z, J dn (x :: rs) z → dn ++ x :: rs = xs → p (enc x) = some (bs x) ∧ ((keyL (bs x)).all fun i => decide (i < n)) = true ∧ ∀ ρ', EK n ρ' (((bs x).map fun b => (b.1, false, b.2)).reverse ++ k z) →
      ∀ Q', (∀ q, LoopQ (fun ρ => ∃ z, J (dn ++ [x]) rs z ∧ EK n ρ (k z)) Q q → Q' q) → b ρ' Q' E)
    (hl : ∀ z, J xs [] z → ∀ ρ', EK n ρ' (k z) → Q (.nx, ρ')) : ForK fz p b (xs.map enc) ρ Q E := by
  refine r_forN enc (fun dn rs ρ => dn ++ rs = xs ∧ ∃ z, J dn rs z ∧ EK n ρ (k z)) (fun dn x rs ρ hI => ?_) (fun dn ρ hI => ?_) xs [] _ ⟨rfl, z, j0, h0 _ (h.frz fz)⟩
  · obtain ⟨e, z, hj, hk⟩ := hI
    obtain ⟨h1, h2, h3⟩ := hs dn x rs z hj e
    refine ⟨bs x, h1, fun Q' hq => h3 _ (setE_EK hk h2) Q' fun q y => hq q ?_⟩
    obtain ⟨f, ρ'⟩ := q
    cases f with
    | nx => exact ⟨by rw [List.append_assoc]; exact e, y⟩
    | ct => exact ⟨by rw [List.append_assoc]; exact e, y⟩
    | bk => exact y
    | rt r => exact y
  · obtain ⟨e, z, hj, hk⟩ := hI
    rw [List.append_nil] at e
    subst e
    exact hl z hj ρ hk
/-- a def's body -/
def EndB (Q : Bool × D → Prop) : Fl × En → Prop := fun p => match p.1 with
  | .nx => Q (false, .non)
  | .rt r => Q r
  | _ => False
theorem r_body {k : Nat} {b : En → WS} {ds : List D} {Q : Bool × D → Prop} {E : Ex → Prop} (hl : ds.length ≤ k) (q : ∀ ρ, EK k ρ (initK 0 ds) → b ρ (EndB Q) (fun p => E p.1)) : runBody k b ds Q E := q _ (init_EK k ds hl)
theorem r_endR {Q : Bool × D → Prop} {r : Bool × D} (q : Q r) : EndB Q (.rt r, ρ) := q
end
end Fb
end

section
set_option Elab.async false
set_option linter.all false
set_option maxRecDepth 100000
set_option maxHeartbeats 4000000
/-! xs == [], whatever stands in xs -/
namespace Fb
open PySem PySem.Spec PyProof.Rows L2
section
variable {X : Cx} {G : Wd}
end
end Fb
end

section
set_option Elab.async false
set_option linter.all false
set_option maxRecDepth 100000
set_option maxHeartbeats 4000000
/-! [.. for k in d], d a dict in a slot -/
namespace Fb
open PySem PySem.Spec PyProof.Rows L2
section
variable {P : Program} {w : World} {G : Wd} {base : Heap} {X : Cx} {Wx : WX}
end
end Fb
end

section
set_option Elab.async false
set_option linter.all false
set_option maxRecDepth 100000
set_option maxHeartbeats 4000000
/-! y = {.. for .. in x.items()}, x a dict in a slot -/
namespace Fb
open PySem PySem.Spec PyProof.Rows L2
section
variable {P : Program} {w : World} {G : Wd} {base : Heap} {X : Cx} {Wx : WX}
end
end Fb
end

section
set_option Elab.async false
set_option linter.all false
set_option maxRecDepth 100000
set_option maxHeartbeats 4000000
/-! raise of an own class without fields; try .. except X: suite. -/
namespace Fb
open PySem PySem.Spec PyProof.Rows L2
/-- an own exception class over ValueError without __init__, without fields -/
structure Exc0 (G : Wd) (n : Str) : Prop where
  ex : ∃ C : Addr, G.mg n = some (.ref C) ∧ PySem.W.excIn G.K C [.type "ValueError", .type "Exception", .type "BaseException", .type "object"] "ValueError.__new__" = true ∧ PySem.W.keepIn G.K (.ref C) = true ∧
    PySem.W.subIn G.K (.ref C) (.type "BaseException") = some true ∧ PySem.W.typeIn G.K (.ref C) = some (.type "type")
section
variable {P : Program} {w : World} {G : Wd} {base : Heap} {k : Nat} {X : Cx} {Wx : WX}
/-- what a suite may lean on -/
structure CzH (G : Wd) (X : Cx) : Prop where
  K : X.K = G.K
  mg : X.mg = G.mg
  un : X.A.units + 200 < cLine
  gd : X.A.guards = some []
theorem CzH.hu (Z : CzH G X) : X.A.units + 65 < cLine := by have := Z.un; omega
theorem CzH.hu64 (Z : CzH G X) : X.A.units + 64 < cLine := by have := Z.un; omega
theorem CzH.hu1 (Z : CzH G X) : X.A.units + 1 < cLine := by have := Z.un; omega
theorem Cz.suite (Z : Cz P w G base k X Wx) (a : Addr) (pn : List (Addr × Obj)) : CzH G (X.suite a pn) := ⟨Z.K, Z.mg, by have := Z.room.un; show X.A.units + 200 < cLine; omega, Z.gd⟩
end
end Fb
end

section
set_option Elab.async false
set_option linter.all false
set_option maxRecDepth 100000
set_option maxHeartbeats 4000000
/-! len(o), str(o) of an own class. -/
namespace Fb
open PySem PySem.Spec PyProof.Rows L2
section
variable {G : Wd} {X : Cx} {Wx : WX}
end
section
variable {P : Program} {w : World} {G : Wd} {base : Heap} {k j : Nat} {X : Cx} {Wx : WX}
end
end Fb
end

section
set_option Elab.async false
set_option linter.all false
set_option maxRecDepth 100000
set_option maxHeartbeats 4000000
/-! f-strings of texts and ints. -/
namespace Fb
open PySem PySem.Spec PyProof.Rows L2
def fmtD : D → W Ex D
  | .str y => if y.length ≤ sizeLine then W.ret (.str y) else W.fail
  | .int i => if i.natAbs.log2 < 1920 then W.ret (.str (toString i)) else W.fail
  | _ => W.fail
def mFmt (m : Ro → W Ex D) : Ro → W Ex D := fun ρ => W.bind (m ρ) fmtD
def onStr (d : D) (k : Str → W Ex D) : W Ex D := match d with
  | .str y => k y
  | _ => W.fail
def mJs : List (Ro → W Ex D) → Str → Ro → W Ex D
  | [], acc => fun _ => W.ret (.str acc)
  | m :: ms, acc => fun ρ => W.bind (m ρ) fun d => onStr d fun y => if (acc ++ y).length ≤ sizeLine then mJs ms (acc ++ y) ρ else W.fail
section
variable {G : Wd} {X : Cx} {Wx : WX}
inductive DJ (G : Wd) (X : Cx) (Wx : WX) : List Expr → List (Ro → W Ex D) → Prop where
  | nil : DJ G X Wx [] []
  | cons {e : Expr} {m : Ro → W Ex D} {es : List Expr} {ms : List (Ro → W Ex D)} (h : DE G X Wx e m) (r : DJ G X Wx es ms) : DJ G X Wx (e :: es) (m :: ms)
theorem onStr_mono {d : D} {k : Str → W Ex D} (h : ∀ y, W.Mono (k y)) : W.Mono (onStr d k) := by
  cases d with
  | str y => exact h y
  | _ => exact W.Mono.fail
theorem DJ.mono {es : List Expr} {ms : List (Ro → W Ex D)} (h : DJ G X Wx es ms) : ∀ acc ρ, W.Mono (mJs ms acc ρ) := by
  induction h with
  | nil => exact fun _ _ => W.Mono.ret
  | cons h r ih => exact fun acc ρ => (h.mono ρ).bind fun d => onStr_mono fun y => ite_mono (ih _ ρ) W.Mono.fail
theorem DJ.go {es : List Expr} {ms : List (Ro → W Ex D)} (h : DJ G X Wx es ms) : ∀ (acc : Str) (N : Addr → Prop) (ρ : Ro) (σ : Fb.St) (H : Hp) (Q : VK), ERel G N H σ ρ → mJs ms acc ρ (PoE G N H Q) (PoX G N Wx H σ) → tJs (ms.map (tE G Wx)) acc σ H (fun out H1 => Q (.str out) H1) := by
  induction h with
  | nil => exact fun acc N ρ σ H Q r q => q (.str acc) H (Same.refl H) rfl
  | @cons e m es ms h r ih =>
    intro acc N ρ σ H Q rr q
    refine h.go rr q (fun x z => z) fun d v H1 z s1 r1 rr1 => ?_
    cases d with
    | str y =>
      have ev : v = .str y := r1
      have z : (if (acc ++ y).length ≤ sizeLine then mJs ms (acc ++ y) ρ else W.fail : W Ex D) (PoE G N H Q) (PoX G N Wx H σ) := z
      by_cases c : (acc ++ y).length ≤ sizeLine
      · rw [if_pos c] at z
        exact ⟨y, ev, c, ih _ N ρ σ H1 Q rr1 ((r.mono _ _).run (fun d z v H2 s2 r2 => z v H2 (s1.trans s2) (r2.sub fun _ y => y.step s1)) (fun x z => z.step s1) z)⟩
      · rw [if_neg c] at z; exact z.elim
    | _ => exact z.elim
end
end Fb
end

section
set_option Elab.async false
set_option linter.all false
set_option maxRecDepth 100000
set_option maxHeartbeats 4000000
/-! == of an own class that has an __eq__; isinstance(o, C) of an own class. -/
namespace Fb
open PySem PySem.Spec PyProof.Rows L2
section
variable {P : Program} {w : World} {G : Wd} {base : Heap} {k j : Nat} {X : Cx} {Wx : WX}
/-- what isinstance asks of an own class -/
structure OwnC (K : PySem.W.Frag) (C : Addr) : Prop where
  ha : PySem.W.findIn K (.ref C) "__class__" = some (some (.builtin "object.__class__"))
  hn : PySem.W.specialIn K (.builtin "object.__class__") "__get__" = some (some (.builtin "getset_descriptor.__get__"))
  ht : PySem.W.takesIn K (.builtin "object.__class__") = some true
  hm : PySem.W.mroIn K C (.type "object") = some true
end
end Fb
end

section
set_option Elab.async false
set_option linter.all false
set_option maxRecDepth 100000
set_option maxHeartbeats 4000000
/-! zip over two things of any kinds: at the library's level. -/
namespace Fb
open PySem PySem.Spec PyProof.Rows L2
structure Kp (ch : List Addr) (h h' : Heap) : Prop where
  at' : ∀ c o, c ∉ ch → h.get? c = some o → h'.get? c = some o
  sz : h.objs.size ≤ h'.objs.size
theorem Kp.refl (ch : List Addr) (h : Heap) : Kp ch h h := ⟨fun _ _ _ e => e, Nat.le_refl _⟩
theorem Kp.trans {ch : List Addr} {h h1 h2 : Heap} (a : Kp ch h h1) (b : Kp ch h1 h2) : Kp ch h h2 := ⟨fun c o n e => b.at' c o n (a.at' c o n e), Nat.le_trans a.sz b.sz⟩
theorem Kp.sub {ch ch' : List Addr} {h h' : Heap} (a : Kp ch h h') (s : ∀ c ∈ ch, c ∈ ch') : Kp ch' h h' := ⟨fun c o n e => a.at' c o (fun z => n (s c z)) e, a.sz⟩
theorem Kp.same {a : Addr} {h h' : Heap} (s : Heap.SameBut a h h') : Kp [a] h h' := ⟨fun c o n e => s.extBut c o (fun z => n (by rw [z]; exact List.mem_cons_self)) e, Nat.le_of_eq s.1.symm⟩
theorem Kp.push (h : Heap) (o : Obj) : Kp [] h (h.push o) := ⟨fun c o _ e => Heap.get?_push_of_some _ e, by rw [Heap.size_push]; omega⟩
section
variable {prog : Program} {w : World} {A : Around} {E : Value → Shared → Prop} {s : Shared}
structure ZA (z TI TO i1 i2 : Addr) : Prop where
  TIz : TI ≠ z
  TOz : TO ≠ z
  i1z : i1 ≠ z
  i2z : i2 ≠ z
  TITO : TI ≠ TO
  TIi1 : TI ≠ i1
  TIi2 : TI ≠ i2
  TOi1 : TO ≠ i1
  TOi2 : TO ≠ i2
  i12 : i1 ≠ i2
theorem Kp.zip {z TI TO : Addr} {f : Value} {ch : List Addr} {h h' : Heap} (k : Kp ch h h') (n : z ∉ ch) (e : IsZip h z TI TO f) : IsZip h' z TI TO f := k.at' _ _ n e
theorem Kp.pair {T : Addr} {a b : Value} {ch : List Addr} {h h' : Heap} (k : Kp ch h h') (n : T ∉ ch) (e : IsPair h T a b) : IsPair h' T a b := k.at' _ _ n e
/-! ### an iterator over a list or a tuple -/
def IterB (t : Bool) (h : Heap) (it l : Addr) (i : Nat) : Prop := match t with | true => h.IsTupleIter it l i | false => h.IsListIter it l i
def SeqOf (t : Bool) (h : Heap) (l : Addr) (its : Array Value) : Prop := match t with | true => h.IsTuple l its | false => h.IsList l its
theorem IterB.at {t : Bool} {h h' : Heap} {it l : Addr} {i : Nat} (r : IterB t h it l i) (k : ∀ o, h.get? it = some o → h'.get? it = some o) : IterB t h' it l i := by
  cases t
  · exact Heap.IsListIter.at r k
  · exact Heap.IsTupleIter.at r k
theorem SeqOf.at {t : Bool} {h h' : Heap} {l : Addr} {its : Array Value} (r : SeqOf t h l its) (k : ∀ o, h.get? l = some o → h'.get? l = some o) : SeqOf t h' l its := by
  cases t
  · exact Heap.IsList.at r k
  · exact Heap.IsTuple.at r k
theorem IterB.obj {t : Bool} {h : Heap} {it l : Addr} {i : Nat} (r : IterB t h it l i) : ∃ o, h.get? it = some o ∧ ∀ v, o.data ≠ .cell v := by
  cases t
  · obtain ⟨o, e, _, d⟩ := r
    exact ⟨o, e, fun v q => by rw [d] at q; cases q⟩
  · obtain ⟨o, e, _, d⟩ := r
    exact ⟨o, e, fun v q => by rw [d] at q; cases q⟩
def SqIt (t : Bool) (h : Heap) (it l : Addr) (i : Nat) (items : Array Value) : Prop := IterB t h it l i ∧ SeqOf t h l items
end
end Fb
end

section
set_option Elab.async false
set_option linter.all false
set_option maxRecDepth 100000
set_option maxHeartbeats 4000000
/-! zip over lists, tuples, items of a dict, mixed. -/
namespace Fb
open PySem PySem.Spec PyProof.Rows L2
def SqB (t : Bool) (K : PySem.W.Frag) (H : Hp) (a : Addr) (xs : List V) : Prop := match t with | true => SqT K H a xs | false => SqL K H a xs
section
variable {X : Cx} {pins : List (Addr × Obj)} {σ : L2.St} {H : Hp} {s : Shared}
theorem SqB.its {t : Bool} {a : Addr} {xs : List V} (I : Inv X pins σ H s) (h : SqB t X.K H a xs) : ∃ its : List Value, Vals xs its ∧ SeqOf t s.heap a its.toArray := by
  cases t
  · obtain ⟨its, rv, p, _⟩ := I.list (show SqL X.K H a xs from h)
    exact ⟨its, rv, p.isList⟩
  · obtain ⟨its, rv, p, _⟩ := I.tuple (show SqT X.K H a xs from h)
    exact ⟨its, rv, p⟩
end
theorem SeqOf.lt {t : Bool} {h : Heap} {l : Addr} {its : Array Value} (r : SeqOf t h l its) : l < h.objs.size := by
  cases t
  · obtain ⟨o, e, _⟩ := r; exact Heap.lt_size e
  · obtain ⟨o, e, _⟩ := r; exact Heap.lt_size e
end Fb
end

section
set_option Elab.async false
set_option linter.all false
set_option maxRecDepth 100000
set_option maxHeartbeats 4000000
/-! zip(x, y) made. -/
namespace Fb
open PySem PySem.Spec PyProof.Rows L2
structure IterG (prog : Program) (w : World) (a : Addr) (S : Heap → Prop) (o : Obj) : Prop where
  it : ∀ {A : Around} {E : Value → Shared → Prop} {s : Shared} {Q : Value → Shared → Prop}, S s.heap → Q (.ref s.heap.objs.size) { s with heap := s.heap.push o } → wpAny (model prog w) A (pyIter (.ref a)) Q E s
section
variable {prog : Program} {w : World} {A : Around} {E : Value → Shared → Prop} {s : Shared}
end
end Fb
end

section
set_option Elab.async false
set_option linter.all false
set_option maxRecDepth 100000
set_option maxHeartbeats 4000000
/-! the iterator over a dict's items, whatever became of the pair it gave. -/
namespace Fb
open PySem PySem.Spec PyProof.Rows L2
def ItmIt (h : Heap) (it d : Addr) (i n ep : Nat) : Prop := ∃ f0 f1 ok ov, (f0 = Value.none ∨ ∃ a : Addr, f0 = rawInt a) ∧ (∃ f, f1 = Value.bool f) ∧
  h.get? it = some { cls := .type "dict_itemiterator", dict := none, data := .fields #[f0, f1, .ref d, .int i 0, .int n 0, .int ep 0, ok, ov], slots := #[] }
theorem ItmIt.at {h h' : Heap} {it d : Addr} {i n ep : Nat} (r : ItmIt h it d i n ep) (k : ∀ o, h.get? it = some o → h'.get? it = some o) : ItmIt h' it d i n ep := by
  obtain ⟨f0, f1, ok, ov, a, b, c⟩ := r
  exact ⟨f0, f1, ok, ov, a, b, k _ c⟩
theorem ItmIt.obj {h : Heap} {it d : Addr} {i n ep : Nat} (r : ItmIt h it d i n ep) : ∃ o, h.get? it = some o ∧ ∀ v, o.data ≠ .cell v := by
  obtain ⟨f0, f1, ok, ov, a, b, c⟩ := r
  exact ⟨_, c, fun v q => nomatch q⟩
section
variable {prog : Program} {w : World} {K : Type} [DecidableEq K] {knd : KeyKind prog w K} {A : Around} {E : Value → Shared → Prop} {s : Shared}
end
end Fb
end

section
set_option Elab.async false
set_option linter.all false
set_option maxRecDepth 100000
set_option maxHeartbeats 4000000
/-! for a, b in zip(x, y), x and y lists or tuples; for (k, v), b in zip(d.items(), y), d new. -/
namespace Fb
open PySem PySem.Spec PyProof.Rows L2
section
variable {X : Cx} {pins : List (Addr × Obj)} {σ : L2.St} {H : Hp} {s : Shared} {h' : Heap}
end
end Fb
end

section
set_option Elab.async false
set_option linter.all false
set_option maxRecDepth 100000
set_option maxHeartbeats 4000000
/-! zip(d.items(), y); the rules over data; list(d.values()). -/
namespace Fb
open PySem PySem.Spec PyProof.Rows L2
end Fb
end

section
set_option Elab.async false
set_option linter.all false
set_option maxRecDepth 100000
set_option maxHeartbeats 4000000
/-! zip over data; list(d.values()). -/
namespace Fb
open PySem PySem.Spec PyProof.Rows L2
def wrapB (t : Bool) (xs : List D) : D := match t with | true => .tup xs | false => .lst xs
def SrcB (t : Bool) (G : Wd) (N : Addr → Prop) (H : Hp) (a : Addr) (vs : List V) : Prop := match t with | true => TupAt G.K H a vs | false => N a ∧ H a = some (.lst vs)
theorem SrcB.rep {t : Bool} {G : Wd} {N : Addr → Prop} {H : Hp} {xs : List D} {v : V} (h : Rep G N H (wrapB t xs) v) : ∃ a vs, v = .ref a ∧ SrcB t G N H a vs ∧ Reps G N H xs vs := by
  cases t
  · obtain ⟨a, vs, e, n, q, r⟩ := h
    exact ⟨a, vs, e, ⟨n, q⟩, r⟩
  · obtain ⟨a, vs, e, q, r⟩ := h
    exact ⟨a, vs, e, q, r⟩
theorem SrcB.sq {t : Bool} {G : Wd} {N : Addr → Prop} {H : Hp} {a : Addr} {vs : List V} (h : SrcB t G N H a vs) : SqB t G.K H a vs := by
  cases t
  · exact .of h.2
  · exact TupAt.sq h
theorem SrcB.part {t : Bool} {G : Wd} {N : Addr → Prop} {H HP H' : Hp} {a : Addr} {vs : List V} (h : SrcB t G N H a vs) (p : Part G N HP H) (s : Same G HP H') : SqB t G.K H' a vs := by
  cases t
  · exact .of (s.at (p.has a _ h.2 (.inl h.1)))
  · exact ((Le.of s).tupT (p.has.tupT h)).sq
theorem SrcB.sub {t : Bool} {G : Wd} {N N' : Addr → Prop} {H : Hp} {a : Addr} {vs : List V} (h : SrcB t G N H a vs) (hN : ∀ b, N b → N' b) : SrcB t G N' H a vs := by
  cases t
  · exact ⟨hN _ h.1, h.2⟩
  · exact h
theorem SrcB.same {t : Bool} {G : Wd} {N : Addr → Prop} {H H' : Hp} {a : Addr} {vs : List V} (h : SrcB t G N H a vs) (s : Same G H H') : SrcB t G N H' a vs := by
  cases t
  · exact ⟨h.1, s.at h.2⟩
  · exact (Le.of s).tupT h
section
variable {G : Wd} {X : Cx} {Wx : WX}
/-! ### list(d.values()) -/
end
end Fb
end

section
set_option Elab.async false
set_option linter.all false
set_option maxRecDepth 100000
set_option maxHeartbeats 4000000
/-! sorted(set(xs)), xs a list of ints. -/
namespace Fb
open PySem PySem.Spec PyProof.Rows L2
section
variable {P : Program} {w : World} {A : Around} {E : Value → Shared → Prop} {s : Shared}
end
/-! ### data -/
section
variable {X : Cx}
end
section
variable {G : Wd} {X : Cx} {Wx : WX}
end
end Fb
end

section
set_option Elab.async false
set_option linter.all false
set_option maxRecDepth 100000
set_option maxHeartbeats 4000000
/-! x.update(e), x a dict that one slot alone holds, e a new dict. -/
namespace Fb
open PySem PySem.Spec PyProof.Rows L2
section
variable {X : Cx}
end
section
variable {G : Wd} {X : Cx} {Wx : WX}
end
section
variable {n : Nat} {ρ : En} {l : List (Nat × Bool × D)} {Q : Fl × En → Prop} {E : Ex × En → Prop}
end
/-! ### d == e, dicts of ints and None -/
section
variable {G : Wd} {N : Addr → Prop} {H : Hp}
end
end Fb
end

section
set_option Elab.async false
set_option linter.all false
set_option maxRecDepth 100000
set_option maxHeartbeats 4000000
/-! sorted(xs, key=lambda x: (len(x), x)), the items tuples of texts. -/
namespace Fb
open PySem PySem.Spec PyProof.Rows L2
section
variable {P : Program} {w : World} {G : Wd} {base : Heap} {k : Nat} {X : Cx} {Wx : WX} {pins : List (Addr × Obj)} {σ : Fb.St} {H : Hp} {s : Shared}
end
/-! ### the rule -/
section
variable {P : Program} {w : World} {G : Wd} {base : Heap} {k : Nat} {X : Cx} {Wx : WX}
end
end Fb
end

section
set_option Elab.async false
set_option linter.all false
set_option maxRecDepth 100000
set_option maxHeartbeats 4000000
/-! dict(xs), xs a tuple of pairs. -/
namespace Fb
open PySem PySem.Spec PyProof.Rows L2
section
variable {prog : Program} {w : World} {A : Around} {E : Value → Shared → Prop}
end
end Fb
end

section
set_option Elab.async false
set_option linter.all false
set_option maxRecDepth 100000
set_option maxHeartbeats 4000000
/-! Worlds: tuples, without an own dict, of pairs of a text and an int. -/
namespace Fb
open PySem PySem.Spec PyProof.Rows L2
section
variable {X : Cx} {pins : List (Addr × Obj)} {σ : Fb.St} {H : Hp} {s : Shared}
theorem PairsAt.snoc {H : Hp} {t : Addr} {w : Str × Int} (h2 : ∃ k1 k2 n, H t = some (pairO w.1 w.2 k1 k2 n)) : ∀ {ts : List Addr} {ws : List (Str × Int)}, PairsAt H ts ws → PairsAt H (ts ++ [t]) (ws ++ [w])
  | [], [], _ => ⟨h2, trivial⟩
  | _ :: _, _ :: _, h => ⟨h.1, PairsAt.snoc h2 h.2⟩
  | [], _ :: _, h => h.elim
  | _ :: _, [], h => h.elim
theorem PairsAt.len {H : Hp} : ∀ {ts : List Addr} {ws : List (Str × Int)}, PairsAt H ts ws → ts.length = ws.length
  | [], [], _ => rfl
  | _ :: _, _ :: _, h => congrArg (· + 1) (PairsAt.len h.2)
  | [], _ :: _, h => h.elim
  | _ :: _, [], h => h.elim
end
section
open PySem.W
variable {prog : Program} {w : World} {A : Around} {E : Value → Shared → Prop} {s : Shared}
end
/-! ### the empty one -/
section
variable {G : Wd} {X : Cx} {Wx : WX}
/-! ### one pair more -/
end
/-! ### dict(w) -/
/-! ### a world is a tuple of tuples -/
end Fb
end

section
set_option Elab.async false
set_option linter.all false
set_option maxRecDepth 100000
set_option maxHeartbeats 4000000
/-! != of an own class that has an __eq__ and no __ne__. -/
namespace PySem.W
open PySem PySem.Calls PyProof.Rows Builtin
section
variable {prog : Program} {w : World} {A A₀ : Around} {E : Value → Shared → Prop} {s : Shared} {K : Frag} {x y C L f : Addr} {h₀ : Heap} {m : Str → Option Value} {ox oy : Obj} {od ody : Option Obj} {name : Str} {id : String}
end
end PySem.W
namespace Fb
open PySem PySem.Spec PyProof.Rows L2
section
variable {P : Program} {w : World} {G : Wd} {base : Heap} {k j : Nat} {X : Cx} {Wx : WX}
end
end Fb
namespace Fb
open PySem PySem.Spec PyProof.Rows L2
section
variable {P : Program} {w : World} {G : Wd} {base : Heap} {k j : Nat} {X : Cx} {Wx : WX}
end
end Fb
end

section
set_option Elab.async false
set_option linter.all false
set_option maxRecDepth 100000
set_option maxHeartbeats 4000000
/-! text * int. -/
namespace Fb
open PySem PySem.Spec PyProof.Rows L2
section
variable {G : Wd} {X : Cx}
end
end Fb
end

section
set_option Elab.async false
set_option linter.all false
set_option maxRecDepth 100000
set_option maxHeartbeats 4000000
/-! {k: e, k2: e2}; d != e of dicts of ints and None. -/
namespace Fb
open PySem PySem.Spec PyProof.Rows L2
section
variable {G : Wd} {X : Cx} {Wx : WX}
end
end Fb
end

section
set_option Elab.async false
set_option linter.all false
set_option maxRecDepth 100000
set_option maxHeartbeats 4000000
/-! sorted(xs, key=str), the items tuples that can be shown. -/
namespace Fb
open PySem PySem.Spec PyProof.Rows L2
section
variable {P : Program} {w : World} {G : Wd} {base : Heap} {k : Nat} {X : Cx} {Wx : WX}
end
end Fb
end

section
set_option Elab.async false
set_option linter.all false
set_option maxRecDepth 100000
set_option maxHeartbeats 4000000
/-! Calls whose arguments are all named. -/
namespace Fb
open PySem PySem.Spec PyProof.Rows L2
open ClX (CRead CMet getmethcm_ok callwith_cm base_none pin_at unpinE)
/-- the things at the places is -/
def permL {α : Type} (is : List Nat) (l : List α) : List α := is.filterMap fun i => l[i]?
structure DK (G : Wd) (X : Cx) (Wx : WX) (kws : List Keyword) (m : Ro → W Ex (List D)) : Prop where
  pk : PK X kws (tA G Wx m)
  mono : ∀ ρ, W.Mono (m ρ)
section
variable {P : Program} {w : World} {G : Wd} {base : Heap} {k j : Nat} {X : Cx} {Wx : WX}
theorem DK.imp {e : List Keyword} {m : Ro → W Ex (List D)} {t : TA} (mono : ∀ ρ, W.Mono (m ρ)) (h : PK X e t) (i : ∀ N ρ σ H Q, ERel G N H σ ρ → m ρ (PoA G N H Q) (PoX G N Wx H σ) → t σ H Q) : DK G X Wx e m :=
  ⟨⟨fun pos pins s σ H Q I ⟨N, ρ, r, q⟩ => h.run pos pins s σ H Q I (i N ρ σ H Q r q)⟩, mono⟩
theorem DK.go {e : List Keyword} {m : Ro → W Ex (List D)} (h : DK G X Wx e m) {N : Addr → Prop} {ρ : Ro} {σ : Fb.St} {H : Hp} {Q : List V → Hp → Prop} (r : ERel G N H σ ρ) {P : List D → Prop} {E : Ex → Prop} (q : m ρ P E)
    (hE : ∀ x, E x → PoX G N Wx H σ x) (hP : ∀ d v H1, P d → Same G H H1 → Reps G (Fr N H) H1 d v → ERel G N H1 σ ρ → Q v H1) : tA G Wx m σ H Q :=
  ⟨N, ρ, r, (h.mono ρ).run (fun d z v H1 s1 r1 => hP d v H1 z s1 r1 (r.same s1)) hE q⟩
theorem dk_nil : DK G X Wx [] mNil := DK.imp (fun _ => W.Mono.ret) pk_nil fun N ρ σ H Q _ q => q [] H (Same.refl H) rfl
theorem dk_cons {nm : Option Str} {kpos : Pos} {e : Expr} {es : List Keyword} {m : Ro → W Ex D} {n : Ro → W Ex (List D)} (h : DE G X Wx e m) (hs : DK G X Wx es n) : DK G X Wx (⟨nm, e, kpos⟩ :: es) (mCons m n) := by
  refine DK.imp (fun ρ => (h.mono ρ).bind fun d => (hs.mono ρ).bind fun ds => W.Mono.ret) (pk_cons h.pe hs.pk) fun N ρ σ H Q r q => ?_
  refine h.go r q (fun x z => z) fun d v H1 z s1 r1 rr => ?_
  refine hs.go rr z (fun x z => z.step s1) fun ds vs H2 z s2 r2 _ => ?_
  exact z (v :: vs) H2 (s1.trans s2) (.cons (r1.same s2) (r2.sub fun _ z => z.step s1))
/-- how p positional arguments and keywords ks bind -/
structure KwB (K : PySem.W.Frag) (fd : FuncData) (ps : List Str) (p : Nat) (ks : List Str) (is : List Nat) : Prop where
  to : ∀ (s : Shared) (us ws : List Value), K.In s.heap → us.length = p → ws.length = ks.length → BindsTo s fd ⟨us, ks.zip ws⟩ (ps.zip (us ++ permL is ws))
section
variable {f : Addr} {fd : FuncData} {ps : List Str} {sem : List D → Rt} {ks : List Str} {is : List Nat} {p0 : Nat}
end
end
end Fb
namespace Fb
open PySem PySem.Spec PyProof.Rows L2
section
variable {P : Program} {w : World} {G : Wd} {base : Heap} {k j : Nat} {X : Cx} {Wx : WX}
end
end Fb
end

section
set_option Elab.async false
set_option linter.all false
set_option maxRecDepth 100000
set_option maxHeartbeats 4000000
/-! Defs that call themselves: copies, one for each depth; behind the last one nothing is told. -/
namespace Fb
open PySem PySem.Spec PyProof.Rows L2
theorem fnd_fail {P : Program} {w : World} {G : Wd} {base : Heap} {k : Nat} {f : Addr} {fd : FuncData} {ps : List Str} : FnD P w G base k f fd ps (fun _ => W.fail) :=
  ⟨fun _ _ _ _ _ _ _ _ _ _ _ _ _ _ _ _ _ _ _ h => h.elim, fun _ => W.Mono.fail⟩
/-! ### isinstance(x, ..) of built-in classes, x an object of an own class too -/
def bltNames : List String := ["tuple", "list", "str", "int", "bool"]
structure NoBlt (K : PySem.W.Frag) (C : Addr) : Prop where
  n0 : PySem.W.mroIn K C (.type "tuple") = some false
  n1 : PySem.W.mroIn K C (.type "list") = some false
  n2 : PySem.W.mroIn K C (.type "str") = some false
  n3 : PySem.W.mroIn K C (.type "int") = some false
  n4 : PySem.W.mroIn K C (.type "bool") = some false
theorem NoBlt.one {K : PySem.W.Frag} {C : Addr} (h : NoBlt K C) {n : String} (hn : bltNames.contains n = true) : PySem.W.kitOne K (.ref C) (.type n) = some false := by
  have key : ∀ n : String, PySem.W.kitMeta n = true → PySem.W.mroIn K C (.type n) = some false → PySem.W.kitOne K (.ref C) (.type n) = some false := fun n h1 h2 => by
    have e1 : (Value.ref C == Value.type n) = false := rfl
    unfold PySem.W.kitOne
    rw [e1, if_neg Bool.false_ne_true]
    unfold PySem.W.kitCls
    dsimp only
    rw [if_pos h1]
    exact h2
  have hn : n ∈ bltNames := by simpa using hn
  simp only [bltNames, List.mem_cons, List.not_mem_nil, or_false] at hn
  rcases hn with rfl | rfl | rfl | rfl | rfl
  · exact key _ (by decide +kernel) h.n0
  · exact key _ (by decide +kernel) h.n1
  · exact key _ (by decide +kernel) h.n2
  · exact key _ (by decide +kernel) h.n3
  · exact key _ (by decide +kernel) h.n4
theorem NoBlt.any {K : PySem.W.Frag} {C : Addr} (h : NoBlt K C) : ∀ {ns : List String}, (ns.all fun n => bltNames.contains n) = true → PySem.W.kitAny K (.ref C) (ns.map Value.type) = some false
  | [], _ => kitAny_nil
  | n :: ns, e => by
    rw [List.all_cons, Bool.and_eq_true] at e
    exact kitAny_cons (h.one e.1) (fun _ => NoBlt.any h e.2) fun z => nomatch z
section
variable {G : Wd} {X : Cx}
end
end Fb
end

section
set_option Elab.async false
set_option linter.all false
set_option maxRecDepth 100000
set_option maxHeartbeats 4000000
/-! Own errors with one field: super().__init__(); self.f = x. -/
namespace Fb
open PySem PySem.Spec PyProof.Rows L2
/-- such an __init__, as it lies -/
structure XFn (P : Program) (K : PySem.W.Frag) (C : Addr) (qual : Str) (st : Stmt) (fI : Addr) : Prop where
  fn : ∃ (oc : Value) (od : Option Addr) (kV doc pm ct : Value) (an : Option Addr) (osl : Array (Option Value)) (cda cc : Addr) (ccl cl : Value) (cdd cld : Option Addr) (vs : Array Value) (ccs csl : Array (Option Value)) (tf : Tok) (file : Str),
    K.lookup fI = some ⟨oc, od, .func (PySem.W.ksFn "__init__" qual (defArgs st) (defBody st) (defScope st) .none kV doc pm an (.ref cda) ct cc), osl⟩ ∧ PySem.W.codeIn K (.ref cda) qual = true ∧
    K.lookup cda = some ⟨ccl, cdd, .fields vs, ccs⟩ ∧ vs[2]? = some (.str file tf) ∧ ((P.main.file : Str) == file) = true ∧ K.lookup cc = some ⟨cl, cld, .cell (some (.ref C)), csl⟩
/-- what such a class must be -/
structure XIni (P : Program) (K : PySem.W.Frag) (C : Addr) (fld : Str) (qual : Str) (st : Stmt) (fI : Addr) : Prop where
  oex : OexC K C
  ini : PySem.W.findIn K (.ref C) "__init__" = some (some (.ref fI))
  ty : PySem.W.typeIn K (.ref fI) = some (.type "function")
  no : PySem.W.findIn K (.ref C) fld = some none
  sup : PySem.W.ks_superIn K C C "__init__" = some (some (.builtin "ValueError.__init__"))
  subV : PySem.W.subIn K (.ref C) (.type "ValueError") = some true
  subC : PySem.W.mroIn K C (.ref C) = some true
  opq : PySem.W.nsIn K cStatics "thirdparty.any" = some none
  top : (P.main.scope.names.lookup ("super" : Str)).isSome = false
  fn : XFn P K C qual st fI
section
open PySem.W
variable {P : Program} {w : World} {A : Around} {E : Value → Shared → Prop} {h : Heap} {g : Array GenState} {d : Drawn} {t : Nat} {os : OsState}
/-- super().__init__(), bound, called -/
theorem call_mw {nm q : Str} {C N : Addr} {bs bm : List Value} {hdct : Bool} {sn : List Str} {sub : List Value} {ab : Bool} {col : Option Bool} {dd : Option Addr} {k0 k1 k2 k3 k5 : Option Value} {u e t0 : Addr} {Q : Value → Shared → Prop}
    (hC : h.get? C = some (excClassObj nm q C N bs bm hdct sn sub ab col dd k0 k1 k2 k3 k5 "ValueError.__new__")) (he : h.get? e = some (excObj C t0 none .none)) (hu : h.get? u = some (kxs_mw "ValueError.__init__" e))
    (hq : ∀ h' t1, (∀ b o, b ≠ e → h.get? b = some o → h'.get? b = some o) → h'.get? e = some (excObj C t1 none .none) → Q .none ⟨h', g, d, t, os⟩) :
    wpAny (model P w) A (call (.ref u) []) Q E ⟨h, g, d, t, os⟩ := by
  refine wpAny_call (codeAny_of_tree ?_)
  show wpAny _ A.in1 (callAny (.ref u) ⟨[], []⟩) _ _ _
  simp only [callAny]
  refine wpAny_bind (wpAny_load hu ?_)
  simp only [kxs_mw, show (Value.type "method-wrapper" == Value.type "method" || Value.type "method-wrapper" == Value.type "builtin_function_or_method" || Value.type "method-wrapper" == Value.type "method-wrapper") = true by decide, if_true]
  refine KFB.if_so (by decide) ?_
  refine wpAny_bind (check_bound_init F.excBase_ValueError.toExcCallFacts hC he rfl ?_)
  refine wpAny_bind (wpAny_pure (wpAny_pure ?_))
  refine ⟨plainId_quiet F.excBase_ValueError.init.plain _, codeAny_builtin F.excBase_ValueError.initEntry ?_⟩
  exact exc_init_tree (cls := .ref C) (t0 := t0) (dv := none) (c2 := .none) (c3 := .none) (b4 := .bool false) he (Nat.zero_le _) fun h' k e' _ => hq h' _ k e'
theorem ns_at {h h' : Heap} {L : Addr} {m : Str → Option Value} (hn : h.Ns L m) (k : ∀ o, h.get? L = some o → h'.get? L = some o) : h'.Ns L m := by
  obtain ⟨o, es, ep, ho, r⟩ := hn
  exact ⟨o, es, ep, k _ ho, r⟩
/-- the body of such an __init__ -/
theorem init_body {K : Frag} {mg mb m : Str → Option Value} {C fI x t0 L cda cc : Addr} {fld prm qual : Str} {st : Stmt} {v : Value} {Q : Flow → Shared → Prop} {p0 p1 p2 p3 p4 p5 p6 p7 p8 : Pos} {env : Env} {body : List Stmt}
    {oc ccl cl : Value} {od cdd cld : Option Addr} {osl ccs csl : Array (Option Value)} {fd : FuncData} {ar : Arg} {vs : Array Value} {tf : Tok} {file : Str}
    (T : XIni P K C fld qual st fI) (hsup : mg "super" = none) (kin : K.In h) (gl : h.Ns mainGlobals mg) (bl : h.Ns builtinsNs mb) (hmb : mb "super" = some (.type "super"))
    (hk : env.scope.kind = .function) (hl1 : env.kindOf "self" = some .local) (hl2 : env.kindOf prm = some .local) (hks : env.kindOf "super" = some .globalImplicit) (hkc : env.kindOf "__class__" = some .free)
    (eg : env.globals = mainGlobals) (eb : env.builtins = builtinsNs) (el : env.locals = L) (ec : env.cells.lookup ("__class__" : Str) = some cc) (ef : env.func = some fI) (ed : env.code = .ref cda)
    (lf : K.lookup fI = some ⟨oc, od, .func fd, osl⟩) (hp : (fd.params.posonlyargs ++ fd.params.args).head? = some ar) (har : ar.arg = "self") (lcda : K.lookup cda = some ⟨ccl, cdd, .fields vs, ccs⟩) (hvs : vs[2]? = some (.str file tf)) (hfile : ((P.main.file : Str) == file) = true)
    (lcc : K.lookup cc = some ⟨cl, cld, .cell (some (.ref C)), csl⟩) (hns : h.Ns L m) (m1 : m "self" = some (.ref x)) (m2 : m prm = some v) (hLx : L ≠ x) (hKx : ∀ b o, K.lookup b = some o → b ≠ x) (hdbg : (prm == ("__debug__" : Str)) = false)
    (hx : h.get? x = some (excObj C t0 none .none)) {pl : Sem Bool}
    (he : eval (.Call (.Attribute (.Call (.Name "super" p0) [] [] p1) "__init__" p2) [] [] p3) env = (do
      let ov ← attributeBase (.Call (.Name "super" p0) [] [] p1) "__init__" env (eval (.Call (.Name "super" p0) [] [] p1) env)
      standAt p2.atName
      let (f, first) ← holding [ov] (getMethod ov "__init__" pl)
      callWith p3 f first (backTo p3 (starEach [] env)) []))
    (hq : ∀ h' t' dx t1, (∀ b o, b ≠ x → h.get? b = some o → h'.get? b = some o) → x < dx → h'.get? x = some (excObj C t1 (some dx) .none) → h'.Ns1 dx (fun y => if y = fld then some v else none) → Q .next ⟨h', g, d, t', os⟩) :
    PySem.wpAt (model P w) A (.func body env) (execs [.Expr (.Call (.Attribute (.Call (.Name "super" p0) [] [] p1) "__init__" p2) [] [] p3) p4, .Assign [.Attribute (.Name "self" p5) fld p6] (.Name prm p7) p8] env) Q E ⟨h, g, d, t, os⟩ := by
  obtain ⟨nm, q, N, bs, bm, sn, sub, ab, col, dd, k0, k1, k2, k3, k5, hC, hbm⟩ := T.oex.cls
  have hcl : clsIn K C = some { name := nm, bases := bs, mro := .ref C :: bm, ns := N, qualname := q, hasDict := true, slotNames := sn, subclasses := sub, abstract := ab, collection := col, hasDel := false } := by unfold clsIn; rw [hC] <;> rfl
  have hi : interactive env = false := by unfold interactive; rw [hk]; rfl
  have hsw : swapsWith (.Call (.Attribute (.Call (.Name "super" p0) [] [] p1) "__init__" p2) [] [] p3) none p4.line env = pure false := rfl
  have hsu := T.sup
  unfold ks_superIn at hsu
  rw [hcl, Option.bind_some] at hsu
  refine ks_wpAt_execs_cons (ks_wpAt_Expr_any (ks_wpAt_MethodCall ?_ he) hi hsw)
  refine ks_wpAt_super_base hks hkc (by decide) ef (kin _ _ lf) rfl hp ed (kin _ _ lcda) rfl hvs hfile T.top ?_
  refine ks_loadName_global hk hks (Calls.loadGlobal_builtin (by rw [eg]; exact gl) hsup (by rw [eb]; exact bl) hmb ⟨rfl, ?_⟩)
  refine wpAny_loadName_free hk hkc ec ⟨_, kin _ _ lcc, rfl⟩ ?_
  rw [har]
  refine wpAny_loadName_local hk hl1 (by rw [el]; exact hns) m1 ?_
  refine ks_wpAny_isType_cls (kin _ _ hC) rfl ⟨rfl, ?_⟩
  refine ks_wpAny_call_super (kin _ _ hC) rfl hx rfl (fun c e => ?_) (looks_mroIn kin T.subC) (fun h1 hso k1 => ?_)
  · cases e
  have kin1 : K.In h1 := kin.keeps k1
  have I1 : InstAt h1 x (excObj C t0 none .none) C none := ⟨k1 _ _ hx, rfl, rfl, trivial⟩
  have hI : Looks (model P w) h1 (isInstance (.ref x) (.type "ValueError")) true := I1.type.andThen (looks_subIn kin1 T.subV)
  refine kxs_getMethod kxs_ValueError hso (looks_opaque kin1 T.opq) (l₀ := .ref C :: bm) (fun A Q E s k q => wpAny_bind ((looks_clsIn kin1 hcl) A _ E s k (wpAny_pure q))) rfl kin1 hsu hI (ks_ne kin1 I1 hcl) (by decide) ?_
  have hu : (h1.push (kxs_mw "ValueError.__init__" x)).get? h1.objs.size = some (kxs_mw "ValueError.__init__" x) := Heap.get?_push_at rfl rfl
  have k2 : ∀ b o, h1.get? b = some o → (h1.push (kxs_mw "ValueError.__init__" x)).get? b = some o := fun b o e => Heap.get?_push_of_some _ e
  refine kxs_callWith (i := "ValueError.__init__") (x := x) rfl (evalArgs_empty ⟨hu, ?_⟩)
  refine call_mw (k2 _ _ (kin1 _ _ hC)) (k2 _ _ (k1 _ _ hx)) hu fun h3 t1 k3 hx3 => ?_
  have kk : ∀ b o, b ≠ x → h.get? b = some o → h3.get? b = some o := fun b o hb e => k3 b o hb (k2 _ _ (k1 _ _ e))
  have kin3 : K.In h3 := fun b o e => kk b o (hKx b o e) (kin b o e)
  have ns3 : h3.Ns L m := ns_at hns fun o e => kk L o hLx e
  refine ks_wpAt_execs_cons (ks_wpAt_Assign_Attr (wpAt_of_wpAny (wpAny_Name (wpAny_loadName_local hk hl2 (by rw [el]; exact ns3) m2 ?_) hdbg)) ?_)
  · refine wpAny_Name (wpAny_loadName_local hk hl1 (by rw [el]; exact ns3) m1 ?_) (by decide)
    refine set_plain kin3 (ox := excObj C t1 none .none) (od := none) ⟨hx3, rfl, rfl, trivial⟩ T.oex.sa ?_
    refine HandSPX.exc_osa kin3 hx3 hcl (show HandSPX.refsVE (.ref C :: bm) = true from hbm) rfl T.no (fun h4 tk' dx k4 dn dne hx4 hn4 => ?_)
    exact wpAt_of_wpAny (wpAny_execs_nil (hq h4 tk' dx t1 (fun b o hb e => k4 b o hb (kk b o hb e)) (Nat.lt_of_lt_of_le (Heap.lt_size hx3) dn) hx4 hn4))
  · rfl
/-- what is read off the def -/
structure XShape (st : Stmt) (fld prm : Str) : Prop where
  body : ∃ p0 p1 p2 p3 p4 p5 p6 p7 p8 : Pos, defBody st = [.Expr (.Call (.Attribute (.Call (.Name "super" p0) [] [] p1) "__init__" p2) [] [] p3) p4, .Assign [.Attribute (.Name "self" p5) fld p6] (.Name prm p7) p8] ∧
    ∀ env : Env, ∃ pl : Sem Bool, eval (.Call (.Attribute (.Call (.Name "super" p0) [] [] p1) "__init__" p2) [] [] p3) env = (do
      let ov ← attributeBase (.Call (.Name "super" p0) [] [] p1) "__init__" env (eval (.Call (.Name "super" p0) [] [] p1) env)
      standAt p2.atName
      let (f, first) ← holding [ov] (getMethod ov "__init__" pl)
      callWith p3 f first (backTo p3 (starEach [] env)) [])
  fst : ((defArgs st).posonlyargs ++ (defArgs st).args).head?.map (·.arg) = some "self"
  bind : ∀ (qual : Str) (kV doc pm ct : Value) (an : Option Addr) (cdv : Value) (cc : Addr) (u v : Value), bindArgs (ksFn "__init__" qual (defArgs st) (defBody st) (defScope st) .none kV doc pm an cdv ct cc) ⟨[u, v], []⟩ = pure ([("self", u), (prm, v)] : List (Str × Value))
  cell : ∀ y ∈ (defScope st).names, y.2 ≠ .cell
  l1 : (defScope st).names.lookup ("self" : Str) = some .local
  l2 : (defScope st).names.lookup prm = some .local
  ks : (defScope st).names.lookup ("super" : Str) = some .globalImplicit
  kc : (defScope st).names.lookup ("__class__" : Str) = some .free
  co : (defScope st).isCoroutine = false
  gen : (defScope st).isGenerator = false
  kind : (defScope st).kind = .function
  sp : ("self" : Str) ≠ prm
  dbg : (prm == ("__debug__" : Str)) = false
theorem init_run {K : Frag} {mg : Str → Option Value} {base : Heap} {C fI x t0 : Addr} {fld prm qual : Str} {st : Stmt} {v : Value} {R : Result → Shared → Prop}
    (T : XIni P K C fld qual st fI) (Sh : XShape st fld prm) (M : Mod K mg base) (hsup : mg "super" = none) (bk : ∀ b o, base.get? b = some o → h.get? b = some o) (hroom : A.depth < recursionLimit) (hxb : base.get? x = none)
    (hx : h.get? x = some (excObj C t0 none .none))
    (hq : ∀ h' t' dx t1, (∀ b o, b ≠ x → h.get? b = some o → h'.get? b = some o) → x < dx → h'.get? x = some (excObj C t1 (some dx) .none) → h'.Ns1 dx (fun y => if y = fld then some v else none) → R (.ok (.ret .none)) ⟨h', g, d, t', os⟩) :
    codeAny (model P w) A (.call (.ref fI) ⟨[.ref x, v], []⟩) R ⟨h, g, d, t, os⟩ := by
  obtain ⟨oc, od, kV, doc, pm, ct, an, osl, cda, cc, ccl, cl, cdd, cld, vs, ccs, csl, tf, file, lf, lcd, lcda, hvs, hfile, lcc⟩ := T.fn.fn
  obtain ⟨p0, p1, p2, p3, p4, p5, p6, p7, p8, hb, hev⟩ := Sh.body
  have kin : K.In h := M.kin.keeps bk
  obtain ⟨mb, hmb, hmb2⟩ := M.blt
  have L0 : x < h.objs.size := Heap.lt_size hx
  obtain ⟨ar, hp, har⟩ : ∃ ar, ((defArgs st).posonlyargs ++ (defArgs st).args).head? = some ar ∧ ar.arg = "self" := by
    have := Sh.fst
    rcases e : ((defArgs st).posonlyargs ++ (defArgs st).args).head? with _ | ar
    · rw [e] at this; cases this
    · rw [e] at this
      exact ⟨ar, rfl, Option.some.inj this⟩
  refine ks_codeAny_call_defAt (fd := ksFn "__init__" qual (defArgs st) (defBody st) (defScope st) .none kV doc pm an (.ref cda) ct cc) (body := defBody st) (binds := [("self", .ref x), (prm, v)]) hroom (kin _ _ lf) rfl (M.nolimit.keeps bk) (codeRec_of kin lcd) rfl (.of_eq (Sh.bind _ _ _ _ _ _ _ _ _ _)) Sh.cell ?_ (fun h0 hns k0 => ?_) Sh.co Sh.gen Sh.kind
  · intro y hy
    simp only [List.mem_cons, List.not_mem_nil, or_false] at hy
    rcases hy with rfl | rfl
    · exact Sh.l1
    · exact Sh.l2
  have kin0 : K.In h0 := kin.keeps k0
  have gl0 : h0.Ns mainGlobals mg := (M.glob.keeps bk).keeps k0
  have bl0 : h0.Ns builtinsNs mb := (hmb.keeps bk).keeps k0
  have lself : (([("self", .ref x), (prm, v)] : List (Str × Value)).reverse.lookup ("self" : Str)) = some (.ref x) := by
    show List.lookup ("self" : Str) [(prm, v), ("self", Value.ref x)] = _
    rw [List.lookup_cons, beq_eq_false_iff_ne.mpr Sh.sp]
    rfl
  have lprm : (([("self", .ref x), (prm, v)] : List (Str × Value)).reverse.lookup prm) = some v := by
    show List.lookup prm [(prm, v), ("self", Value.ref x)] = _
    rw [List.lookup_cons, beq_self_eq_true]
  rw [hb]
  obtain ⟨pl, he⟩ := hev (ksEnv qual (defScope st) h.objs.size fI (.ref cda) cc)
  refine ks_wpAt_mono (Q := fun f s' => f = .next ∧ R (.ok (.ret .none)) s') (E := fun _ _ => False) (init_body (fld := fld) (prm := prm) (m := fun y => ([("self", .ref x), (prm, v)] : List (Str × Value)).reverse.lookup y) T hsup kin0 gl0 bl0 ((hmb2 "super" (by decide)).trans (by decide +kernel)) Sh.kind Sh.l1 Sh.l2 Sh.ks Sh.kc rfl rfl rfl rfl rfl rfl lf hp har lcda hvs hfile lcc hns lself lprm (Nat.ne_of_gt L0) (fun b o e z => ?_) Sh.dbg (k0 _ _ hx) he fun h' t' dx t1 k lt hx' hn' => ⟨rfl, hq h' t' dx t1 (fun b o hb e => k b o hb (k0 b o e)) lt hx' hn'⟩) (fun f s' z => ?_) (fun _ _ z => z.elim)
  · have := M.kin b o e
    rw [z, hxb] at this
    cases this
  · obtain ⟨rfl, z⟩ := z
    exact z
end
/-! ### C(e) -/
section
variable {X : Cx}
end
/-! ### raise C(e) -/
/-- an own error with a field, of the world -/
structure Exc1 (P : Program) (G : Wd) (n fld prm : Str) (st : Stmt) : Prop where
  ex : ∃ (C fI : Addr) (qual : Str), G.mg n = some (.ref C) ∧ XIni P G.K C fld qual st fI ∧ XShape st fld prm
section
variable {P : Program} {w : World} {G : Wd} {base : Heap} {k : Nat} {X : Cx} {Wx : WX}
end
/-! ### several except clauses, with a name -/
inductive HdsA (X : Cx) (n : Str) : List ExceptHandler → List (Value × (Addr → Value → Option Addr → TS)) → Prop
  | nil : HdsA X n [] []
  | cons {x : Str} {c : Value} {ts : Addr → Value → Option Addr → TS} {b₀ : Stmt} {suite : List Stmt} {np pos' : Pos} {hds : List ExceptHandler} {l : List (Value × (Addr → Value → Option Addr → TS))} (hc : Names X x c)
      (hsu : ∀ (a : Addr) (oe : Obj) (cls : Value) (d : Option Addr) (pn : List (Addr × Obj)), Zc cls d oe → (∃ vs, oe.data = .fields vs) → PSs (X.suite a ((a, oe) :: pn)) (b₀ :: suite) (ts a cls d)) (r : HdsA X n hds l) :
      HdsA X n (.ExceptHandler (some (.Name x np)) (some n) (b₀ :: suite) pos' :: hds) ((c, ts) :: l)
section
variable {X : Cx} {n : Str} {i : Nat} {body : List Stmt} {h₀ : ExceptHandler} {hds : List ExceptHandler} {l : List (Value × (Addr → Value → Option Addr → TS))} {pos : Pos} {tb : WX → TS} {Wout : WX}
end
/-! ### over data -/
def plF : List (Str × D) → Option (List (Str × Key))
  | [] => some []
  | (f, .int i) :: r => (plF r).map ((f, .inl i) :: ·)
  | (f, .str x) :: r => (plF r).map ((f, .inr x) :: ·)
  | _ => none
/-- the clauses: class name, which classes it takes, its suite -/
abbrev Hdl := Str × List (Str × Bool) × (Addr → Option Addr → En → WS)
section
variable {P : Program} {w : World} {G : Wd} {base : Heap} {k : Nat} {X : Cx} {Wx : WX}
def tsH (G : Wd) (nm : Str) (s : Addr → Option Addr → En → WS) : Addr → Value → Option Addr → TS := fun a cls d D σ H => G.mg nm = some cls ∧ tS G WxF (s a d) D σ H
inductive HdsD (G : Wd) (X : Cx) (n : Str) : List ExceptHandler → List Hdl → List (Value × (Addr → Value → Option Addr → TS)) → Prop
  | nil : HdsD G X n [] [] []
  | cons {nm : Str} {C : Addr} {M : List (Str × Bool)} {s : Addr → Option Addr → En → WS} {b₀ : Stmt} {suite : List Stmt} {np pos' : Pos} {hds : List ExceptHandler} {hs : List Hdl} {l : List (Value × (Addr → Value → Option Addr → TS))}
      (gC : G.mg nm = some (.ref C)) (tk : ∀ m b, M.lookup m = some b → ∃ D, G.mg m = some (.ref D) ∧ PySem.W.exmOne G.K (.ref D) (.ref C) = some b) (hM : ∀ m, M.lookup m = some true → m = nm) (hg : Gl X nm) (hdb : (nm == ("__debug__" : Str)) = false)
      (hsu : ∀ (a : Addr) (dd : Option Addr) (oe : Obj) (pn : List (Addr × Obj)), Zc (.ref C) dd oe → (∃ vs, oe.data = .fields vs) → CzH G (X.suite a ((a, oe) :: pn)) → DSs G (X.suite a ((a, oe) :: pn)) WxF (b₀ :: suite) (s a dd)) (r : HdsD G X n hds hs l) :
      HdsD G X n (.ExceptHandler (some (.Name nm np)) (some n) (b₀ :: suite) pos' :: hds) ((nm, M, s) :: hs) ((.ref C, tsH G nm s) :: l)
theorem HdsD.mono {n : Str} (Z : Cz P w G base k X Wx) : ∀ {hds : List ExceptHandler} {hs : List Hdl} {l : List (Value × (Addr → Value → Option Addr → TS))}, HdsD G X n hds hs l → ∀ h ∈ hs, ∀ a dd ρ, W.Mono (h.2.2 a dd ρ)
  | _, _, _, .nil => fun h hh => nomatch hh
  | _, _, _, @HdsD.cons _ _ _ nm C M s b₀ suite np pos' hds hs l gC tk hM hg hdb hsu r => fun h hh a dd ρ => by
    rcases List.mem_cons.mp hh with rfl | hh
    · have hz : Zc (.ref C) dd ({ cls := .ref C, dict := dd, data := .fields #[] } : Obj) := ⟨rfl, rfl⟩
      exact (hsu a dd _ [] hz ⟨_, rfl⟩ (Z.suite a _)).mono ρ
    · exact HdsD.mono Z r h hh a dd ρ
/-! ### in a suite: e.f, isinstance(e, ..) -/
/-- a class of errors that is caught by a name -/
structure XCat (G : Wd) (n : Str) (C : Addr) : Prop where
  mg : G.mg n = some (.ref C)
  xf : XfC G.K C
  is : ExcC G.K C
end
/-! ### the facts, as checks -/
section
variable {K : PySem.W.Frag} {C fI cda cc : Addr}
def oexB (K : PySem.W.Frag) (C : Addr) : Bool := match K.lookup C with
  | some ⟨.type "type", _, .cls cd, sl⟩ => (match cd.mro, sl.toList with
    | .ref C' :: bm, [_, _, _, _, some (.builtin n), _] => C' == C && n == "ValueError.__new__" && !cd.hasDel && cd.hasDict && PySem.HandSPX.refsVE bm
    | _, _ => false)
  | _ => false
theorem oexB_ok (q : oexB K C = true) : ∃ nm q N bs bm sn sub ab col dd k0 k1 k2 k3 k5, K.lookup C = some (excClassObj nm q C N bs bm true sn sub ab col dd k0 k1 k2 k3 k5 "ValueError.__new__") ∧ PySem.HandSPX.refsVE bm = true := by
  unfold oexB at q
  split at q
  · rename_i dd cd sl ho
    split at q
    · rename_i C' bm k0 k1 k2 k3 n k5 hm hs
      simp only [Bool.and_eq_true, beq_iff_eq, Bool.not_eq_true'] at q
      obtain ⟨⟨⟨⟨rfl, rfl⟩, hdel⟩, hdd⟩, ht⟩ := q
      obtain ⟨nm, bs, mro, ns, qn, hd, sn, sub, ab, col, del⟩ := cd
      dsimp only at hm hdel hdd
      subst hm hdel hdd
      have hsl : sl = #[k0, k1, k2, k3, some (.builtin "ValueError.__new__"), k5] := by
        obtain ⟨l⟩ := sl
        simp only at hs
        rw [hs]
      subst hsl
      exact ⟨nm, qn, ns, bs, bm, sn, sub, ab, col, dd, k0, k1, k2, k3, k5, ho, ht⟩
    · cases q
  · cases q
def oexcB (K : PySem.W.Frag) (C : Addr) : Bool := oexB K C && (decide (PySem.W.findIn K (.ref C) "__setattr__" = some (some (.builtin "object.__setattr__"))) && (decide (PySem.W.subIn K (.ref C) (.type "BaseException") = some true) && (decide (PySem.W.typeIn K (.ref C) = some (.type "type")) && PySem.W.keepIn K (.ref C))))
theorem oexcB_ok (h : oexcB K C = true) : OexC K C := by
  obtain ⟨h1, h⟩ := Bool.and_eq_true_iff.mp h
  obtain ⟨h2, h⟩ := Bool.and_eq_true_iff.mp h
  obtain ⟨h3, h⟩ := Bool.and_eq_true_iff.mp h
  obtain ⟨h4, h5⟩ := Bool.and_eq_true_iff.mp h
  exact ⟨oexB_ok h1, of_decide_eq_true h2, of_decide_eq_true h3, of_decide_eq_true h4, h5⟩
def xiniB (P : Program) (K : PySem.W.Frag) (C fI : Addr) (fld : Str) : Bool := oexcB K C && (decide (PySem.W.findIn K (.ref C) "__init__" = some (some (.ref fI))) && (decide (PySem.W.typeIn K (.ref fI) = some (.type "function")) && (decide (PySem.W.findIn K (.ref C) fld = some none) &&
  (decide (PySem.W.ks_superIn K C C "__init__" = some (some (.builtin "ValueError.__init__"))) && (decide (PySem.W.subIn K (.ref C) (.type "ValueError") = some true) && (decide (PySem.W.mroIn K C (.ref C) = some true) && (decide (PySem.W.nsIn K cStatics "thirdparty.any" = some none) && !(P.main.scope.names.lookup ("super" : Str)).isSome)))))))
theorem xiniB_ok {P : Program} {fld qual : Str} {st : Stmt} (h : xiniB P K C fI fld = true) (F : XFn P K C qual st fI) : XIni P K C fld qual st fI := by
  obtain ⟨h1, h⟩ := Bool.and_eq_true_iff.mp h
  obtain ⟨h2, h⟩ := Bool.and_eq_true_iff.mp h
  obtain ⟨h3, h⟩ := Bool.and_eq_true_iff.mp h
  obtain ⟨h4, h⟩ := Bool.and_eq_true_iff.mp h
  obtain ⟨h5, h⟩ := Bool.and_eq_true_iff.mp h
  obtain ⟨h6, h⟩ := Bool.and_eq_true_iff.mp h
  obtain ⟨h7, h⟩ := Bool.and_eq_true_iff.mp h
  obtain ⟨h8, h9⟩ := Bool.and_eq_true_iff.mp h
  exact ⟨oexcB_ok h1, of_decide_eq_true h2, of_decide_eq_true h3, of_decide_eq_true h4, of_decide_eq_true h5, of_decide_eq_true h6, of_decide_eq_true h7, of_decide_eq_true h8, by simpa using h9, F⟩
def fileB (P : Program) (K : PySem.W.Frag) (cda : Addr) : Bool := match K.lookup cda with
  | some (⟨_, _, .fields vs, _⟩ : Obj) => (match (vs[2]? : Option Value) with
    | some (Value.str file _) => (P.main.file : Str) == file
    | _ => false)
  | _ => false
def cellB (K : PySem.W.Frag) (cc C : Addr) : Bool := match K.lookup cc with
  | some ⟨_, _, .cell (some (.ref C')), _⟩ => C' == C
  | _ => false
theorem xfn_of {P : Program} {qual : Str} {st : Stmt} {oc kV doc pm ct : Value} {od an : Option Addr} {osl : Array (Option Value)}
    (hl : K.lookup fI = some ⟨oc, od, .func (PySem.W.ksFn "__init__" qual (defArgs st) (defBody st) (defScope st) .none kV doc pm an (.ref cda) ct cc), osl⟩) (hc : PySem.W.codeIn K (.ref cda) qual = true) (hf : fileB P K cda = true) (hcc : cellB K cc C = true) : XFn P K C qual st fI := by
  unfold fileB at hf
  unfold cellB at hcc
  split at hf
  · rename_i ccl cdd vs ccs e1
    split at hf
    · rename_i file tf e2
      split at hcc
      · rename_i cl cld C' csl e3
        have := beq_iff_eq.mp hcc
        subst this
        exact ⟨oc, od, kV, doc, pm, ct, an, osl, cda, cc, ccl, cl, cdd, cld, vs, ccs, csl, tf, file, hl, hc, e1, e2, hf, e3⟩
      · cases hcc
    · cases hf
  · cases hf
def xcatB (K : PySem.W.Frag) (C : Addr) : Bool := xfB K C && (decide (PySem.W.findIn K (.ref C) "__class__" = some (some (.builtin "object.__class__"))) && (decide (PySem.W.specialIn K (.builtin "object.__class__") "__get__" = some (some (.builtin "getset_descriptor.__get__"))) && (decide (PySem.W.takesIn K (.builtin "object.__class__") = some true) && decide (PySem.W.mroIn K C (.type "object") = some true))))
theorem xcatB_ok {G : Wd} {n : Str} {C : Addr} (hm : G.mg n = some (.ref C)) (h : xcatB G.K C = true) : XCat G n C := by
  obtain ⟨h1, h⟩ := Bool.and_eq_true_iff.mp h
  obtain ⟨h2, h⟩ := Bool.and_eq_true_iff.mp h
  obtain ⟨h3, h⟩ := Bool.and_eq_true_iff.mp h
  obtain ⟨h4, h5⟩ := Bool.and_eq_true_iff.mp h
  have x := xfB_ok h1
  exact ⟨hm, x, ⟨x.ga, x.gg, x.exC, x.hdC, of_decide_eq_true h2, of_decide_eq_true h3, of_decide_eq_true h4, of_decide_eq_true h5⟩⟩
/-- a class by its name -/
theorem dclG {G : Wd} {X : Cx} {Wx : WX} {x : Str} {pos : Pos} (hmg : X.mg = G.mg) (hm : ∃ D : Addr, G.mg x = some (.ref D)) (hg : Gl X x) (hd : (x == ("__debug__" : Str)) = false := by decide) : DE G X Wx (.Name x pos) (mC (.cls x)) := by
  obtain ⟨D, hm⟩ := hm
  exact de_const (v := .ref D) (pe_glob hg (hmg ▸ hm) rfl hd) fun N H => ⟨D, rfl, hm⟩
end
theorem isn_nil {G : Wd} {C : Addr} : ∀ (m : Str) (b : Bool), ([] : List (Str × Bool)).lookup m = some b → ∃ D : Addr, G.mg m = some (.ref D) ∧ PySem.W.kitOne G.K (.ref C) (.ref D) = some b := fun _ _ e => by simp at e
theorem isn_cons {G : Wd} {C D : Addr} {n : Str} {v : Bool} {M : List (Str × Bool)} (h1 : G.mg n = some (.ref D)) (h2 : PySem.W.kitOne G.K (.ref C) (.ref D) = some v) (h : ∀ (m : Str) (b : Bool), M.lookup m = some b → ∃ D : Addr, G.mg m = some (.ref D) ∧ PySem.W.kitOne G.K (.ref C) (.ref D) = some b) :
    ∀ (m : Str) (b : Bool), ((n, v) :: M).lookup m = some b → ∃ D : Addr, G.mg m = some (.ref D) ∧ PySem.W.kitOne G.K (.ref C) (.ref D) = some b := fun m b e => by
  rw [List.lookup_cons] at e
  cases c : (m == n) with
  | true =>
    rw [c] at e
    cases e
    rw [show m = n by simpa using c]
    exact ⟨D, h1, h2⟩
  | false => rw [c] at e; exact h m b e
theorem ist_nil {K : PySem.W.Frag} {C : Addr} : ∀ (t : String) (b : Bool), ([] : List (String × Bool)).lookup t = some b → PySem.W.kitOne K (.ref C) (.type t) = some b := fun _ _ e => by simp at e
/-! ### a list times an int -/
section
variable {G : Wd} {X : Cx}
end
/-! ### repr of a number, a text, None -/
section
variable {G : Wd} {X : Cx}
def gReprS : List D → Rt
  | [.non] => W.ret (false, .str "None")
  | [.int i] => if i.natAbs.log2 < 1920 then W.ret (false, .str (toString i)) else W.fail
  | [.str x] => if (reprText x).length ≤ sizeLine then W.ret (false, .str (reprText x)) else W.fail
  | ds => gRepr ds
theorem gReprS_mono (ds : List D) : W.Mono (gReprS ds) := by
  unfold gReprS
  split <;> first | exact W.Mono.ret | exact ite_mono W.Mono.ret W.Mono.fail | exact gRepr_mono _
theorem bl_reprS (Z : X.K = G.K) (hg : X.A.guards = some []) (hu : X.A.units + 65 < cLine) : CallR X (.builtin "repr") (rD G gReprS) := by
  intro pins s σ H xs us Q I r h
  obtain ⟨N, ds, rr, q⟩ := h
  unfold gReprS at q
  split at q
  · obtain ⟨v, rfl, r1⟩ := rr.one_inv
    obtain ⟨u, rfl, rv⟩ := vals1 r
    obtain rfl : v = .non := r1
    obtain rfl : u = Value.none := rv
    exact P.repr_of_none ⟨.str "None", H, I.kept (t' := s.toks + 1) fun _ _ e => e, ⟨_, rfl⟩, q (.str "None") H (Same.refl H) rfl fun y => nomatch y⟩
  · rename_i i
    obtain ⟨hl, q⟩ := ite_ret q
    obtain ⟨v, rfl, r1⟩ := rr.one_inv
    obtain ⟨u, rfl, rv⟩ := vals1 r
    obtain rfl : v = .int i := r1
    obtain ⟨t, rfl⟩ : ∃ t, u = Value.int i t := rv
    exact P.repr_of_int hl ⟨.str (toString i), H, I.kept (t' := s.toks + 1) fun _ _ e => e, ⟨_, rfl⟩, q (.str (toString i)) H (Same.refl H) rfl fun y => nomatch y⟩
  · rename_i x
    obtain ⟨hl, q⟩ := ite_ret q
    obtain ⟨v, rfl, r1⟩ := rr.one_inv
    obtain ⟨u, rfl, rv⟩ := vals1 r
    obtain rfl : v = .str x := r1
    obtain ⟨t, rfl⟩ : ∃ t, u = Value.str x t := rv
    exact P.repr_of_str ⟨.str (reprText x), H, I.kept (t' := s.toks + 1) fun _ _ e => e, ⟨_, rfl⟩, q (.str (reprText x)) H (Same.refl H) rfl fun y => nomatch y⟩ hl
  · exact bl_repr Z hg hu pins s σ H xs us Q I r ⟨N, _, rr, q⟩
end
end Fb
end

section
set_option Elab.async false
set_option linter.all false
set_option maxRecDepth 100000
set_option maxHeartbeats 4000000
/-! len(set(xs)), xs a list of texts -/
namespace Fb
open PySem PySem.Spec PyProof.Rows L2
section
variable {prog : Program} {w : World} {A : Around} {R : Result → Shared → Prop} {I : Addr} {fp wr : List Addr} {G : Array GenState → Array GenState → Prop} {n : Nat} {P : Nat → Value → Prop} {St : Nat → Shared → Prop}
end
/-- a list of texts -/
inductive TxtsAre : List Value → List Str → Prop
  | nil : TxtsAre [] []
  | cons (x : Str) (t : Tok) {vs : List Value} {xs : List Str} (h : TxtsAre vs xs) : TxtsAre (.str x t :: vs) (x :: xs)
theorem TxtsAre.at {vs : List Value} {xs : List Str} (h : TxtsAre vs xs) : ∀ (i : Nat) (v : Value), vs[i]? = some v → ∃ t, v = .str (xs.getD i "") t := by
  induction h with
  | nil => intro i v e; simp at e
  | cons x t h ih =>
    intro i v e
    cases i with
    | zero => simp at e; exact ⟨t, by rw [← e]; rfl⟩
    | succ i =>
      obtain ⟨t', e'⟩ := ih i v (by simpa using e)
      exact ⟨t', by rw [e']; rfl⟩
section
variable {prog : Program} {w : World} {A : Around} {E : Value → Shared → Prop} {s : Shared}
end
/-! ### data -/
def txtsOf : List D → Option (List Str)
  | [] => some []
  | .str x :: r => (txtsOf r).map (x :: ·)
  | _ => none
section
variable {X : Cx}
end
section
variable {G : Wd} {X : Cx} {Wx : WX}
end
end Fb
end

section
set_option Elab.async false
set_option linter.all false
set_option maxRecDepth 100000
set_option maxHeartbeats 4000000
/-! A def of the module, called with nothing. -/
namespace Fb
open PySem PySem.Spec PyProof.Rows L2
section
variable {P : Program} {w : World} {G : Wd} {base : Heap} {k : Nat} {X : Cx} {Wx : WX}
end
end Fb
end

section
set_option Elab.async false
set_option linter.all false
set_option maxRecDepth 100000
set_option maxHeartbeats 4000000
/-! __init__ of an own class that stores instances of other classes. -/
namespace Fb
open PySem PySem.Spec PyProof.Rows L2
mutual
/-- no instance is in it but of the classes cs -/
def noinsX (cs : List Str) : D → Bool
  | .tup xs => noinssX cs xs
  | .lst xs => noinssX cs xs
  | .dic kvs => noinsKX cs kvs
  | .ins c fs => cs.contains c && noinsFX cs fs
  | .obj _ _ _ => false
  | .stk _ _ _ _ => false
  | .non => true
  | .bl _ => true
  | .int _ => true
  | .str _ => true
  | .box _ => true
  | .ty _ => true
  | .cls _ => true
  | .exn _ _ _ => false
  | .erv _ _ _ _ => false
  | .cel _ _ => false
  | .raw _ => true
  | .scr _ => true
  | .clo _ _ => false
def noinssX (cs : List Str) : List D → Bool
  | [] => true
  | x :: xs => noinsX cs x && noinssX cs xs
def noinsKX (cs : List Str) : List (Key × D) → Bool
  | [] => true
  | (_, x) :: xs => noinsX cs x && noinsKX cs xs
def noinsFX (cs : List Str) : List (Str × D) → Bool
  | [] => true
  | (_, x) :: xs => noinsX cs x && noinsFX cs xs
end
section
variable {G : Wd} {N : Addr → Prop} {H H' : Hp} {x C dx : Addr} {gs : List (Str × V)} {cs : List Str}
end
section
variable {G : Wd} {X : Cx} {Wx : WX}
/-- the stores of a new instance's attributes -/
def fldNX (cs : List Str) (ρ : Ro) : List (Str × (Ro → W Ex D)) → List (Str × D) → If
  | [], acc => W.ret acc
  | (f, m) :: r, acc => W.bind (W.calm (m ρ)) fun d => if noinsX cs d = true ∧ acc.length < 1000 then fldNX cs ρ r (putFD f d acc) else W.fail
def tSfX (cs : List Str) (G : Wd) (C : Addr) (ms : List (Str × (Ro → W Ex D))) : TS := fun D' σ H => ∃ (N : Addr → Prop) (ρ : Ro) (x dx : Addr) (acc : List (Str × D)) (gs : List (Str × V)), σ[0]? = some (some (.ref x)) ∧ H x = some (.ins C dx gs) ∧ RepF G N H acc gs ∧ noinsFX cs acc = true ∧ ERel G N H σ ρ ∧ (∀ (i : Nat) (d : D), ρ[i]? = some (some d) → noinsX cs d = true) ∧
  fldNX cs ρ ms acc (fun fs => ∀ H' gs', SameB G x H H' → H' x = some (.ins C dx gs') → RepF G (Fr N H) H' fs gs' → D'.nx σ H') (fun _ => False)
structure DSfX (cs : List Str) (G : Wd) (X : Cx) (C : Addr) (sts : List Stmt) (ms : List (Str × (Ro → W Ex D))) : Prop where
  ps : PSs X sts (tSfX cs G C ms)
  mono : ∀ m ∈ ms, ∀ ρ, W.Mono (m.2 ρ)
end
end Fb
end

section
set_option Elab.async false
set_option linter.all false
set_option maxRecDepth 100000
set_option maxHeartbeats 4000000
/-! Instances that change: new ones; defs that change what their first thing is; expressions that change. -/
namespace Fb
open PySem PySem.Spec PyProof.Rows L2
/-! ### what can't be changed stays -/
def Ch (G : Wd) (H H' : Hp) : Prop := ∀ a o, H a = some o → ¬ isM G o → (∀ ps, o ≠ .tbl ps) → H' a = some o
theorem Ch.refl {G : Wd} (H : Hp) : Ch G H H := fun _ _ e _ _ => e
theorem Ch.trans {G : Wd} {H H1 H2 : Hp} (a : Ch G H H1) (b : Ch G H1 H2) : Ch G H H2 := fun c o e n t => b c o (a c o e n t) n t
theorem Ch.of {G : Wd} {H H' : Hp} (s : Same G H H') : Ch G H H' := fun a o e _ t => s.ext a o e t
section
variable {G : Wd} {N N' : Addr → Prop} {H H' : Hp}
theorem Ch.tupT {K : PySem.W.Frag} (h : Ch G H H') {a : Addr} {xs : List V} (r : TupAt K H a xs) : TupAt K H' a xs := r.elim (fun e => .inl (h a _ e id fun _ z => nomatch z)) fun z => z.elim (fun ⟨o, e⟩ => .inr (.inl ⟨o, h a _ e id fun _ z => nomatch z⟩)) fun z => .inr (.inr z)
theorem Ch.scr {K : PySem.W.Frag} (h : Ch G H H') {a : Addr} {ns : List Int} (r : ScrAt K H a ns) : ScrAt K H' a ns := r.elim (fun ⟨o, e⟩ => .inl ⟨o, h a _ e id fun _ z => nomatch z⟩) .inr
mutual
theorem Rep.ch (hL : Ch G H H') : ∀ {d : D} {v : V}, imm d = true → Rep G N H d v → Rep G N' H' d v
  | .non, _, _, h => h
  | .bl _, _, _, h => h
  | .int _, _, _, h => h
  | .str _, _, _, h => h
  | .tup ds, _, i, ⟨a, vs, e, q, r⟩ => ⟨a, vs, e, hL.tupT q, Reps.ch hL (by simpa [Fb.imm] using i) r⟩
  | .lst ds, _, i, _ => by simp [Fb.imm] at i
  | .dic kvs, _, i, _ => by simp [Fb.imm] at i
  | .ins c fs, _, i, ⟨a, C, dx, gs, e, m, q, r, t⟩ => ⟨a, C, dx, gs, e, m, hL a _ q t (fun _ z => nomatch z), RepF.ch hL (by simpa [Fb.imm] using i) r, t⟩
  | .obj x c fs, _, i, _ => by simp [Fb.imm] at i
  | .stk _ _ _ _, _, i, _ => by simp [Fb.imm] at i
  | .box n, _, _, ⟨a, e, q⟩ => ⟨a, e, q.imp fun b o z f => hL b _ z (f.elim (fun ⟨φ, e⟩ => by subst e; exact id) fun f => f.elim (fun ⟨ob, xs, e⟩ => by subst e; exact id) fun ⟨gs, e⟩ => by subst e; exact id) (f.elim (fun ⟨φ, e⟩ => by subst e; exact fun _ z => nomatch z) fun f => f.elim (fun ⟨ob, xs, e⟩ => by subst e; exact fun _ z => nomatch z) fun ⟨gs, e⟩ => by subst e; exact fun _ z => nomatch z)⟩
  | .ty _, _, _, h => h
  | .cls _, _, _, h => h
  | .exn x dd fs, _, i, ⟨e, q⟩ => ⟨e, fun d ed => (q d ed).elim fun gs z => ⟨gs, hL d _ z.1 id (fun _ z => nomatch z), RepF.ch hL (by simpa [Fb.imm] using i) z.2⟩⟩
  | .erv x c dd fs, _, i, ⟨e, ⟨C, m, q1⟩, q⟩ => ⟨e, ⟨C, m, hL x _ q1 id (fun _ z => nomatch z)⟩, fun d ed => (q d ed).elim fun gs z => ⟨gs, hL d _ z.1 id (fun _ z => nomatch z), RepF.ch hL (by simpa [Fb.imm] using i) z.2⟩⟩
  | .cel _ _, _, i, _ => by simp [Fb.imm] at i
  | .raw _, _, _, h => h
  | .scr _, _, _, ⟨a, e, q⟩ => ⟨a, e, hL.scr q⟩
  | .clo k cs, _, i, ⟨e, q, r⟩ => ⟨e, hL k.c _ q id (fun _ z => by unfold LamX.CodeO at z; exact nomatch z), Reps.ch hL (by simpa [Fb.imm] using i) r⟩
theorem Reps.ch (hL : Ch G H H') : ∀ {ds : List D} {vs : List V}, imms ds = true → Reps G N H ds vs → Reps G N' H' ds vs
  | [], _, _, h => h
  | _ :: _, _, i, ⟨w, ws, e, r, rs⟩ => ⟨w, ws, e, Rep.ch hL (and_l (by simpa [imms] using i)) r, Reps.ch hL (and_r (by simpa [imms] using i)) rs⟩
theorem RepF.ch (hL : Ch G H H') : ∀ {ds : List (Str × D)} {vs : List (Str × V)}, immF ds = true → RepF G N H ds vs → RepF G N' H' ds vs
  | [], _, _, h => h
  | (_, _) :: _, _, i, ⟨w, ws, e, r, rs⟩ => ⟨w, ws, e, Rep.ch hL (and_l (by simpa [immF] using i)) r, RepF.ch hL (and_r (by simpa [immF] using i)) rs⟩
end
mutual
/-- no instance that may change is in it -/
def noobj : D → Bool
  | .tup xs => noobjs xs
  | .lst xs => noobjs xs
  | .dic kvs => noobjK kvs
  | .ins _ fs => noobjF fs
  | .obj _ _ _ => false
  | .stk _ _ _ _ => false
  | .non => true
  | .bl _ => true
  | .int _ => true
  | .str _ => true
  | .box _ => true
  | .ty _ => true
  | .cls _ => true
  | .exn _ _ fs => noobjF fs
  | .erv _ _ _ fs => noobjF fs
  | .cel _ _ => false
  | .raw _ => true
  | .scr _ => true
  | .clo _ cs => noobjs cs
def noobjs : List D → Bool
  | [] => true
  | x :: xs => noobj x && noobjs xs
def noobjK : List (Key × D) → Bool
  | [] => true
  | (_, x) :: xs => noobj x && noobjK xs
def noobjF : List (Str × D) → Bool
  | [] => true
  | (_, x) :: xs => noobj x && noobjF xs
end
mutual
/-- .. then none of its lists and dicts lies where an instance lies -/
theorem Rep.apart {x C dx : Addr} {gs : List (Str × V)} (hx : H x = some (.ins C dx gs)) : ∀ {d : D} {v : V}, noobj d = true → Rep G N H d v → Rep G (fun b => N b ∧ b ≠ x) H d v
  | .non, _, _, h => h
  | .bl _, _, _, h => h
  | .int _, _, _, h => h
  | .str _, _, _, h => h
  | .tup ds, _, i, ⟨a, vs, e, q, r⟩ => ⟨a, vs, e, q, Reps.apart hx (by simpa [noobj] using i) r⟩
  | .lst ds, _, i, ⟨a, vs, e, n, q, r⟩ => ⟨a, vs, e, ⟨n, ne_ins hx q fun _ _ _ y => nomatch y⟩, q, Reps.apart hx (by simpa [noobj] using i) r⟩
  | .dic kvs, _, i, ⟨a, ks, e, n, q, r⟩ => ⟨a, ks, e, ⟨n, q.elim (fun z => ne_ins hx z fun _ _ _ y => nomatch y) fun ⟨o, z⟩ => ne_ins hx z fun _ _ _ y => nomatch y⟩, q, RepK.apart hx (by simpa [noobj] using i) r⟩
  | .ins c fs, _, i, ⟨a, C', dx', gs', e, m, q, r, t⟩ => ⟨a, C', dx', gs', e, m, q, RepF.apart hx (by simpa [noobj] using i) r, t⟩
  | .obj y c fs, _, i, _ => by simp [noobj] at i
  | .stk _ _ _ _, _, i, _ => by simp [noobj] at i
  | .box n, _, _, h => h
  | .ty _, _, _, h => h
  | .cls _, _, _, h => h
  | .exn x dd fs, _, i, ⟨e, q⟩ => ⟨e, fun d ed => (q d ed).elim fun gs z => ⟨gs, z.1, RepF.apart hx (by simpa [noobj] using i) z.2⟩⟩
  | .erv x c dd fs, _, i, ⟨e, q1, q⟩ => ⟨e, q1, fun d ed => (q d ed).elim fun gs z => ⟨gs, z.1, RepF.apart hx (by simpa [noobj] using i) z.2⟩⟩
  | .cel _ _, _, i, _ => by simp [noobj] at i
  | .raw _, _, _, h => h
  | .scr _, _, _, h => h
  | .clo k cs, _, i, ⟨e, q, r⟩ => ⟨e, q, Reps.apart hx (by simpa [noobj] using i) r⟩
theorem Reps.apart {x C dx : Addr} {gs : List (Str × V)} (hx : H x = some (.ins C dx gs)) : ∀ {ds : List D} {vs : List V}, noobjs ds = true → Reps G N H ds vs → Reps G (fun b => N b ∧ b ≠ x) H ds vs
  | [], _, _, h => h
  | _ :: _, _, i, ⟨w, ws, e, r, rs⟩ => ⟨w, ws, e, Rep.apart hx (and_l (by simpa [noobjs] using i)) r, Reps.apart hx (and_r (by simpa [noobjs] using i)) rs⟩
theorem RepK.apart {x C dx : Addr} {gs : List (Str × V)} (hx : H x = some (.ins C dx gs)) : ∀ {ds : List (Key × D)} {vs : List (Key × V)}, noobjK ds = true → RepK G N H ds vs → RepK G (fun b => N b ∧ b ≠ x) H ds vs
  | [], _, _, h => h
  | (_, _) :: _, _, i, ⟨w, ws, e, r, rs⟩ => ⟨w, ws, e, Rep.apart hx (and_l (by simpa [noobjK] using i)) r, RepK.apart hx (and_r (by simpa [noobjK] using i)) rs⟩
theorem RepF.apart {x C dx : Addr} {gs : List (Str × V)} (hx : H x = some (.ins C dx gs)) : ∀ {ds : List (Str × D)} {vs : List (Str × V)}, noobjF ds = true → RepF G N H ds vs → RepF G (fun b => N b ∧ b ≠ x) H ds vs
  | [], _, _, h => h
  | (_, _) :: _, _, i, ⟨w, ws, e, r, rs⟩ => ⟨w, ws, e, Rep.apart hx (and_l (by simpa [noobjF] using i)) r, RepF.apart hx (and_r (by simpa [noobjF] using i)) rs⟩
end
end
section
variable {P : Program} {w : World} {G : Wd} {base : Heap} {k j : Nat} {X : Cx} {Wx : WX}
/-! ### a new one -/
end
end Fb
end

section
set_option Elab.async false
set_option linter.all false
set_option maxRecDepth 100000
set_option maxHeartbeats 4000000
/-! Defs that change what their first thing is. -/
namespace Fb
open PySem PySem.Spec PyProof.Rows L2
/-- the heap without what stands at x and at lo -/
def del (H : Hp) (x : Addr) (lo : Option Addr) : Hp := fun a => if a = x ∨ lo = some a then none else H a
/-- all stands but what is at x and at lo -/
structure SameN (G : Wd) (x : Addr) (lo : Option Addr) (H H' : Hp) : Prop where
  ext : ∀ a o, a ≠ x → lo ≠ some a → H a = some o → (∀ ps, o ≠ .tbl ps) → H' a = some o
  fre : ∀ a, a ≠ x → lo ≠ some a → H' a = none → H a = none
  tab : TabsG G H → TabsG G H'
def NestOk (H : Hp) (x : Addr) (lo : Option Addr) (o : D) : Prop := ∀ l, nestD o = some l → (lo = some l ∨ H l = none) ∧ l ≠ x
def Mn (N : Addr → Prop) (H : Hp) (x : Addr) (lo : Option Addr) : Addr → Prop := fun b => (Fr N H b ∨ lo = some b) ∧ b ≠ x
theorem nest_at {G : Wd} {M : Addr → Prop} {H : Hp} {l : Addr} : ∀ {fs : List (Str × D)} {gs : List (Str × V)}, RepF G M H fs gs → nestF fs = some l → M l ∧ ∃ C dx gs', H l = some (.ins C dx gs') ∧ G.mut C
  | [], _, _, h => nomatch h
  | (k, d) :: r, _, ⟨w, ws, e, rd, rs⟩, h => by
    cases d with
    | obj y c fs =>
      obtain ⟨_, n, C, dx, gs, m, q, rf, t⟩ := rd
      cases (show some y = some l from h)
      exact ⟨n, C, dx, gs, q, t⟩
    | _ => exact nest_at rs h
abbrev Rm := W (Ex × D) ((Bool × D) × D)
def PoM (G : Wd) (N : Addr → Prop) (H : Hp) (x : Addr) (lo : Option Addr) (Q : VK) (p : (Bool × D) × D) : Prop := ∀ v H', SameN G x lo H H' → NestOk H x lo p.2 → OwnT G (Mn N H x lo) H' x p.2 → Rep G (Mn N H x lo) H' p.1.2 v → Q v H'
def PoMX (G : Wd) (N : Addr → Prop) (H : Hp) (x : Addr) (lo : Option Addr) (E : XK) (p : Ex × D) : Prop := ∀ c dd H', SameN G x lo H H' → NestOk H x lo p.2 → OwnT G (Mn N H x lo) H' x p.2 → XRep G (Mn N H x lo) H' p.1 c dd → E c dd H'
/-- the def at f, called with an instance of c that stands alone and values for ds, does what sem says -/
structure FnM (P : Program) (w : World) (G : Wd) (base : Heap) (k : Nat) (f : Addr) (fd : FuncData) (ps : List Str) (c : Str) (sem : List D → Rm) : Prop where
  run : ∀ (A : Around) (outer : List Env) (s : Shared) (H : Hp) (args : Args) (us : List Value) (vs : List V) (ds : List D) (N : Addr → Prop) (x : Addr) (fs : List (Str × D)) (Q : VK) (E : XK), Room k A → A.guards = some [] → Env0 P w G.K G.mg base A outer s H → TabsG G H →
    BindsTo s fd args (ps.zip (.ref x :: us)) → Vals vs us → Reps G N H ds vs → vs.length + 1 = ps.length → ¬ N x → (∀ l, nestF fs = some l → ¬ N l ∧ l ≠ x) → OwnT G N H x (.obj x c fs) →
    sem (.obj x c fs :: ds) (PoM G N H x (nestF fs) Q) (PoMX G N H x (nestF fs) E) → codeAny (model P w) A (.call (.ref f) args) (CR (CX P w) outer P w H s Q E) s
  mono : ∀ ds, W.Mono (sem ds)
section
variable {G : Wd} {N : Addr → Prop} {H : Hp}
end
section
variable {P : Program} {w : World} {G : Wd} {base : Heap} {k j : Nat} {X : Cx} {Wx : WX} {f : Addr} {fd : FuncData} {ps : List Str} {c : Str} {sem : List D → Rm}
end
end Fb
end

section
set_option Elab.async false
set_option linter.all false
set_option maxRecDepth 100000
set_option maxHeartbeats 4000000
/-! Expressions that change what a slot holds alone. -/
namespace Fb
open PySem PySem.Spec PyProof.Rows L2
def objAt : D → Option Addr
  | .obj x _ _ => some x
  | _ => none
theorem SameN.ch {G : Wd} {x C dx : Addr} {lo : Option Addr} {gs : List (Str × V)} {H H' : Hp} (s : SameN G x lo H H') (hx : H x = some (.ins C dx gs)) (t : G.mut C) (hl : ∀ l, lo = some l → ∃ u, H l = some u ∧ isM G u) : Ch G H H' := fun a o e n t' => s.ext a o (fun z => by subst z; rw [hx] at e; cases e; exact n t) (fun z => by
  obtain ⟨u, q, k⟩ := hl a z
  rw [e] at q
  cases q
  exact n k) e t'
section
variable {G : Wd} {H0 H H' : Hp} {N0 N' : Addr → Prop} {S : Nat ⊕ Nat → Option Addr} {σ : Fb.St} {ρ : En}
end
/-! ### the judgement -/
def PoXE (G : Wd) (H0 : Hp) (N0 : Addr → Prop) (σ : Fb.St) (H : Hp) (Q : VK) (p : D × En) : Prop := ∀ v H', SRel G H0 N0 σ H' p.2 → Ch G H H' → Rep G (Fr N0 H0) H' p.1 v → Q v H'
def tX (G : Wd) (Wx : WX) (m : En → W (Ex × En) (D × En)) : TE := fun σ H Q => ∃ H0 N0 ρ, SRel G H0 N0 σ H ρ ∧ m ρ (PoXE G H0 N0 σ H Q) (PoXS G H0 N0 Wx)
structure DX (G : Wd) (X : Cx) (Wx : WX) (e : Expr) (m : En → W (Ex × En) (D × En)) : Prop where
  pe : PE X e (tX G Wx m)
  mono : ∀ ρ, W.Mono (m ρ)
def PoXT (G : Wd) (H0 : Hp) (N0 : Addr → Prop) (σ : Fb.St) (Q : Bool → Hp → Prop) (p : Bool × En) : Prop := ∀ H', SRel G H0 N0 σ H' p.2 → Q p.1 H'
def tXT (G : Wd) (Wx : WX) (m : En → W (Ex × En) (Bool × En)) : TT := fun σ H Q => ∃ H0 N0 ρ, SRel G H0 N0 σ H ρ ∧ m ρ (PoXT G H0 N0 σ Q) (PoXS G H0 N0 Wx)
structure DXT (G : Wd) (X : Cx) (Wx : WX) (e : Expr) (m : En → W (Ex × En) (Bool × En)) : Prop where
  pt : PT X e (tXT G Wx m)
  mono : ∀ ρ, W.Mono (m ρ)
structure DXW (G : Wd) (X : Cx) (Wx : WX) (e : Expr) (m : En → W (Ex × En) (Bool × En)) : Prop where
  pw : PW X e (tXT G Wx m)
  mono : ∀ ρ, W.Mono (m ρ)
section
variable {G : Wd} {X : Cx} {Wx : WX}
/-! ### operators -/
/-! ### not, and, or -/
theorem DXW.dt {e : Expr} {m : En → W (Ex × En) (Bool × En)} (h : DXW G X Wx e m) : DXT G X Wx e m := ⟨h.pw.pt, h.mono⟩
/-! ### built-in functions of one thing -/
/-! ### statements -/
end
end Fb
end

section
set_option Elab.async false
set_option linter.all false
set_option maxRecDepth 100000
set_option maxHeartbeats 4000000
/-! Calls of defs that change an instance; its fields stored anew. -/
namespace Fb
open PySem PySem.Spec PyProof.Rows L2
section
variable {P : Program} {w : World} {G : Wd} {base : Heap} {k j : Nat} {X : Cx} {Wx : WX} {f : Addr} {fd : FuncData} {ps : List Str} {c : Str} {sem : List D → Rm}
theorem RepF.sub {G : Wd} {N N' : Addr → Prop} {H : Hp} {d : List (Str × D)} {v : List (Str × V)} (h : RepF G N H d v) (hN : ∀ a, N a → N' a) : RepF G N' H d v := RepF.mono (fun a z _ => hN a z) (Le.refl H) h
/-! ### methods -/
/-! ### defs of the module, the instance first -/
/-! ### a field of slot i's instance stored anew -/
end
end Fb
end

section
set_option Elab.async false
set_option linter.all false
set_option maxRecDepth 100000
set_option maxHeartbeats 4000000
/-! What the printed proofs use of instances that change. -/
namespace Fb
open PySem PySem.Spec PyProof.Rows L2
section
variable {P : Program} {w : World} {G : Wd} {base : Heap} {k : Nat} {X : Cx} {Wx : WX}
/-- a def of the module whose first thing is changed -/
structure FnKM (P : Program) (w : World) (G : Wd) (base : Heap) (k : Nat) (x : Str) (ps : List Str) (c : Str) (sem : List D → Rm) : Prop where
  ex : ∃ (f : Addr) (fd : FuncData), G.mg x = some (.ref f) ∧ PySem.W.keepIn G.K (.ref f) = true ∧ Binds G.K fd ps [] ∧ FnM P w G base k f fd ps c sem
end
end Fb
end

section
set_option Elab.async false
set_option linter.all false
set_option maxRecDepth 100000
set_option maxHeartbeats 4000000
/-! A def that a slot holds is called. -/
namespace Fb
open PySem PySem.Spec PyProof.Rows L2
/-- the defs that a slot may hold: name, how many things it takes, what it does -/
abbrev FTab := List (Str × Nat × (List D → Rt))
inductive FnTab (P : Program) (w : World) (G : Wd) (base : Heap) (k : Nat) : FTab → Prop
  | nil : FnTab P w G base k []
  | cons {x : Str} {j : Nat} {ps : List Str} {sem : List D → Rt} {r : FTab} (F : FnK P w G base j x ps sem) (hj : j ≤ k) (t : FnTab P w G base k r) : FnTab P w G base k ((x, ps.length, sem) :: r)
theorem FnTab.look {P : Program} {w : World} {G : Wd} {base : Heap} {k : Nat} {c : Str} {n : Nat} {sem : List D → Rt} : ∀ {T : FTab}, FnTab P w G base k T → T.lookup c = some (n, sem) → ∃ j ps, FnK P w G base j c ps sem ∧ j ≤ k ∧ ps.length = n
  | _, .nil, e => by simp at e
  | _, @FnTab.cons _ _ _ _ _ x j ps s r F hj t, e => by
    rw [List.lookup_cons] at e
    cases h : (c == x) with
    | true =>
      rw [h] at e
      cases e
      rw [show c = x by simpa using h]
      exact ⟨j, ps, F, hj, rfl⟩
    | false => rw [h] at e; exact FnTab.look t e
section
variable {P : Program} {w : World} {G : Wd} {base : Heap} {k : Nat} {X : Cx} {Wx : WX}
end
end Fb
end

section
set_option Elab.async false
set_option linter.all false
set_option maxRecDepth 100000
set_option maxHeartbeats 4000000
/-! list(zip(x, y)), x and y lists or tuples. -/
namespace Fb
open PySem PySem.Spec PyProof.Rows L2
section
variable {prog : Program} {w : World} {A : Around} {E : Value → Shared → Prop} {s : Shared}
end

/-! ### the walk -/
/-- a zip after i pairs; S is a list that is being filled -/
def ZSt (t u : Bool) (z TI TO i1 i2 a b S : Addr) (xs ys : Array Value) (i : Nat) (h : Heap) : Prop :=
  IsPair h TI (.ref i1) (.ref i2) ∧ SqIt t h i1 a i xs ∧ SqIt u h i2 b i ys ∧
  ((IsZip h z TI TO .none ∧ ∃ x y, IsPair h TO x y) ∨ ∃ T f oT, IsZipHeld h z TI TO T f ∧ h.get? T = some oT ∧ T ∉ [z, TO, i1, i2, S])
/-- apart -/
structure ZB (z TI TO i1 i2 a b S : Addr) : Prop where
  za : ZA z TI TO i1 i2
  na : a ∉ [z, TO, i1, i2]
  nb : b ∉ [z, TO, i1, i2]
  sf : S ∉ [z, TI, TO, i1, i2, a, b]
section
variable {prog : Program} {w : World} {A : Around} {E : Value → Shared → Prop} {s : Shared} {t u : Bool} {z TI TO i1 i2 a b S : Addr} {xs ys : Array Value}
theorem SqIt.at {t : Bool} {h h' : Heap} {it l : Addr} {i : Nat} {its : Array Value} (r : SqIt t h it l i its) (k : ∀ c o, c = it ∨ c = l → h.get? c = some o → h'.get? c = some o) : SqIt t h' it l i its :=
  ⟨r.1.at fun o e => k _ o (.inl rfl) e, r.2.at fun o e => k _ o (.inr rfl) e⟩
theorem ZSt.keep (B : ZB z TI TO i1 i2 a b S) {i : Nat} {h h' : Heap} (st : ZSt t u z TI TO i1 i2 a b S xs ys i h) (k : ∀ c o, c ≠ S → h.get? c = some o → h'.get? c = some o) : ZSt t u z TI TO i1 i2 a b S xs ys i h' := by
  obtain ⟨hTI, h1, h2, hz⟩ := st
  have sf := B.sf
  simp only [List.mem_cons, List.not_mem_nil, or_false, not_or] at sf
  obtain ⟨s1, s2, s3, s4, s5, s6, s7⟩ := sf
  refine ⟨k _ _ (Ne.symm s2) hTI, h1.at fun c o hc e => k c o ?_ e, h2.at fun c o hc e => k c o ?_ e, ?_⟩
  · rcases hc with rfl | rfl
    · exact Ne.symm s4
    · exact Ne.symm s6
  · rcases hc with rfl | rfl
    · exact Ne.symm s5
    · exact Ne.symm s7
  · rcases hz with ⟨hz, x, y, hTO⟩ | ⟨T, f, oT, hz, hT, nT⟩
    · exact .inl ⟨k _ _ (Ne.symm s1) hz, x, y, k _ _ (Ne.symm s3) hTO⟩
    · refine .inr ⟨T, f, oT, k _ _ (Ne.symm s1) hz, k _ _ (fun c => nT (by simp [c])) hT, nT⟩
end

/-! ### the list filled -/
structure MadeP (xs ys : Array Value) (lo : Addr) (h : Heap) (as : List Addr) : Prop where
  rise : as.Pairwise (· < ·)
  above : ∀ a ∈ as, lo < a
  pairs : ∀ (j : Nat) (a : Addr), as[j]? = some a → ∃ x y, xs[j]? = some x ∧ ys[j]? = some y ∧ IsPair h a x y
theorem MadeP.there {xs ys : Array Value} {lo : Addr} {h : Heap} {as : List Addr} (g : MadeP xs ys lo h as) {a : Addr} (ha : a ∈ as) : a < h.objs.size := by
  obtain ⟨j, hj⟩ := List.mem_iff_getElem?.mp ha
  obtain ⟨_, _, _, _, e⟩ := g.pairs j a hj
  exact Heap.lt_size e
section
variable {prog : Program} {w : World} {A : Around} {s : Shared} {R : Result → Shared → Prop} {t u : Bool} {z TI TO i1 i2 a b S : Addr} {xs ys : Array Value}
end
section
variable {prog : Program} {w : World} {A : Around} {E : Value → Shared → Prop} {s : Shared} {t u : Bool} {z TI TO i1 i2 a b : Addr} {xs ys : Array Value}
end

/-! ### the rule -/
section
variable {X : Cx}
end
/-! ### over data -/
section
variable {G : Wd} {X : Cx} {Wx : WX}
end
end Fb
end

section
set_option Elab.async false
set_option linter.all false
set_option maxRecDepth 100000
set_option maxHeartbeats 4000000
/-! x.pop() as an expression that changes. -/
namespace Fb
open PySem PySem.Spec PyProof.Rows L2
section
variable {G : Wd} {X : Cx} {Wx : WX}
end
end Fb
end

section
set_option Elab.async false
set_option linter.all false
set_option maxRecDepth 100000
set_option maxHeartbeats 4000000
/-! sorted(xs, key=str), xs a list or a tuple, the items tuples that can be shown. -/
namespace Fb
open PySem PySem.Spec PyProof.Rows L2
section
open PySem.W PySem.Calls
variable {prog : Program} {w : World} {A : Around} {E : Value → Shared → Prop} {s : Shared} {β : Type} {vs : List Value} {bs : List β} {R : Value → β → Prop}
end
section
variable {P : Program} {w : World} {G : Wd} {base : Heap} {k : Nat} {X : Cx} {Wx : WX}
end
end Fb
end

section
set_option Elab.async false
set_option linter.all false
set_option maxRecDepth 100000
set_option maxHeartbeats 4000000
/-! xs.index(e), xs a list of ints -/
namespace Fb
open PySem PySem.Spec PyProof.Rows L2
section
variable {G : Wd} {X : Cx} {Wx : WX}
end
end Fb
end

section
set_option Elab.async false
set_option linter.all false
set_option maxRecDepth 100000
set_option maxHeartbeats 4000000
/-! An own KeyError with one field, any value. -/
namespace Fb
open PySem PySem.Spec PyProof.Rows L2
abbrev keTail : List Value := [.type "KeyError", .type "LookupError", .type "Exception", .type "BaseException", .type "object"]
section
open PySem.W PySem.Builtin PySem.Builtin.ObjectAttr
theorem kxs_KeyErrorK : KxsFacts "KeyError" "KeyError.__init__" := ⟨by show builtinType _ = _; rw [builtinType_eq_fast]; kernel_rfl, by first | kernel_rfl | rfl⟩
theorem ke_pass (self : Value) : refuseLoop self "__setattr__" keTail = pure () := by kernel_rfl
theorem ke_kind : builtinKind "KeyError.__init__" = some .slot := by kernel_rfl
theorem ke_row : Manifest.signature? "KeyError.__init__" = some ⟨.positional, "*", "KeyError", .self, [⟨"args", .varPos, false⟩]⟩ := by kernel_rfl
theorem ke_plain : plainId "KeyError.__init__" = true := by decide +kernel
theorem ke_entry : entryFor table "KeyError.__init__" = some Builtin.«BaseException.__init__» := excClass_KeyError.initEntry
end

structure OexK (K : PySem.W.Frag) (C : Addr) : Prop where
  cls : ∃ nm q N bs bm sn sub ab col dd k0 k1 k2 k3 k5, K.lookup C = some (excClassObj nm q C N bs bm true sn sub ab col dd k0 k1 k2 k3 k5 "LookupError.__new__") ∧ bm = keTail
  sa : PySem.W.findIn K (.ref C) "__setattr__" = some (some (.builtin "object.__setattr__"))
  exC : PySem.W.subIn K (.ref C) (.type "BaseException") = some true
  tyC : PySem.W.typeIn K (.ref C) = some (.type "type")
  kC : PySem.W.keepIn K (.ref C) = true
section
open PySem.W PySem.HandSPX PySem.Builtin PySem.Builtin.ObjectAttr
variable {M : Model} {A : Around} {E : Value → Shared → Prop} {h : Heap} {g : Array GenState} {d : Drawn} {t : Nat} {os : OsState}
variable {nm q : Str} {C N : Addr} {bs bm : List Value} {hdct : Bool} {sn : List Str} {sub : List Value} {ab : Bool} {col : Option Bool} {dd : Option Addr} {k0 k1 k2 k3 k5 : Option Value}
theorem check_bound_initK {newId : String} {e : Addr} {oe : Obj} {rest : List Value} {Q : Unit → Shared → Prop}
    (hC : h.get? C = some (excClassObj nm q C N bs bm hdct sn sub ab col dd k0 k1 k2 k3 k5 newId)) (he : h.get? e = some oe) (hcls : oe.cls = .ref C) (hq : Q () ⟨h, g, d, t, os⟩) : wpAny M A (checkBoundCall "KeyError.__init__" ⟨.ref e :: rest, []⟩) Q E ⟨h, g, d, t, os⟩ := by
  have hshort : ("KeyError" != "*") = true := by decide
  simp only [checkBoundCall, ke_kind, ke_row]
  repeat (first | (with_reducible refine wpAny_loadPart_at he ?_; rw [hcls]) | with_reducible refine wpAny_loadPart_at hC ?_ | wp_step)
  refine wpAny_onRaise ?_
  rw [show ∀ (a b : String) (n : Nat), Bind.check ⟨.positional, "*", "KeyError", .self, [⟨"args", .varPos, false⟩]⟩ a b n (List.map (fun x => x.fst) ({ pos := Value.ref e :: rest } : Args).kw) = pure () from
    fun a b n => check_star_args _ _ _ _ _ _]
  exact wpAny_pure hq
theorem check_newK (hbm : bm = keTail) {rest : List Value} {Q : Unit → Shared → Prop}
    (hC : h.get? C = some (excClassObj nm q C N bs bm hdct sn sub ab col dd k0 k1 k2 k3 k5 "LookupError.__new__")) (hq : Q () ⟨h, g, d, t, os⟩) : wpAny M A (checkBuiltinCall "LookupError.__new__" ⟨.ref C :: rest, []⟩) Q E ⟨h, g, d, t, os⟩ := by
  have hcont : (Value.ref C :: bm).contains (.type "LookupError") = true := by rw [hbm, List.contains_cons, show keTail.contains (.type "LookupError") = true by decide +kernel, Bool.or_true]
  have hstar := F.excBase_LookupError.noStar
  simp only [checkBuiltinCall, F.excBase_LookupError.newKind, F.excBase_LookupError.newSplit, F.excBase_LookupError.newRow]
  repeat (first | refine wpAny_loadPart_at hC ?_ | (refine wpAny_isSubtype_exc hC ?_; rw [hcont]) | refine wpAny_staticBase_exc hC ?_ | refine wpAny_madeBy_exc hC ?_ | simp only [bne_self_eq_false, Bool.false_eq_true, if_false] | wp_step)
  exact hq
end
section
open PySem.W PySem.HandSPX PySem.Builtin PySem.Builtin.ObjectAttr
variable {prog : Program} {w : World} {A : Around} {E : Value → Shared → Prop} {R : Result → Shared → Prop} {h : Heap} {g : Array GenState} {d : Drawn} {t : Nat} {os : OsState}
variable {nm q : Str} {C N : Addr} {bs bm : List Value} {hdct : Bool} {sn : List Str} {sub : List Value} {ab : Bool} {col : Option Bool} {dd : Option Addr} {k0 k1 k2 k3 k5 : Option Value}
theorem newK (hbm : bm = keTail) {rest : List Value}
    (hC : h.get? C = some (excClassObj nm q C N bs bm hdct sn sub ab col dd k0 k1 k2 k3 k5 "LookupError.__new__"))
    (hq : R (.ok (.ret (.ref (h.objs.size + 1)))) ⟨(h.push { cls := .type "tuple", data := .seq rest.toArray }).push
      { cls := .ref C, data := .fields #[.ref h.objs.size, .none, .none, .none, .bool false, .none] }, g, d, t, os⟩) (hrest : rest.length ≤ sizeLine) :
    codeAny (model prog w) A (.builtin "LookupError.__new__" ⟨.ref C :: rest, []⟩) R ⟨h, g, d, t, os⟩ := by
  have hends := F.excBase_LookupError.ends
  have hcB : (Value.ref C :: bm).contains (.type "LookupError") = true := by rw [hbm, List.contains_cons, show keTail.contains (.type "LookupError") = true by decide +kernel, Bool.or_true]
  have hcA : (Value.ref C :: bm).contains (.type "AttributeError") = false := by rw [hbm, List.contains_cons, show keTail.contains (.type "AttributeError") = false by decide +kernel]; rfl
  have hcN : (Value.ref C :: bm).contains (.type "NameError") = false := by rw [hbm, List.contains_cons, show keTail.contains (.type "NameError") = false by decide +kernel]; rfl
  refine codeAny_builtinAt F.excBase_LookupError.entry ?_
  unfold Builtin.«BaseException.__new__»
  refine PySem.wpAt_bind ?_
  show PySem.wpAt _ _ _ (stack >>= _) _ _ _
  refine PySem.wpAt_bind (PySem.wpAt_stack fun p below => PySem.wpAt_of_wpAny ?_)
  wp_walk
  refine PySem.wpAt_of_wpAny ?_
  rw [F.excBase_LookupError.owner]
  repeat (first | with_reducible refine wpAny_madeHere_exc F.excBase_LookupError.canon hC ?_ | with_reducible refine wpAny_loadPart_at hC ?_ | (with_reducible refine wpAny_isSubtype_exc hC ?_; first | rw [hcB] | rw [hcA] | rw [hcN]) | wp_step)
  show R _ _
  rw [Heap.size_push]
  exact hq
theorem type_callK (hbm : bm = keTail) {rest : List Value} {fI : Addr} {Q : Fin → Shared → Prop}
    (hC : h.get? C = some (excClassObj nm q C N bs bm hdct sn sub ab col dd k0 k1 k2 k3 k5 "LookupError.__new__"))
    (hi : W.Looks (model prog w) h (typeLookup (.ref C) "__init__") (some (.ref fI))) (hb : ∀ self, W.Looks (model prog w) h (bindSpecial (.ref fI) self) (.ref fI, [self])) (hrest : rest.length ≤ sizeLine)
    (hq : codeAny (model prog w) A (.call (.ref fI) ⟨.ref (h.objs.size + 1) :: rest, []⟩)
      (fun r s' => match r with | .ok (.ret v) => v = .none ∧ Q (.done (.ret (.ref (h.objs.size + 1)))) s' | .ok _ => False | .error e => E e s')
      ⟨(h.push (W.kdv_tup rest)).push (excO C h.objs.size), g, d, t, os⟩) :
    wpAny (model prog w) A (Builtin.«type.__call__» ⟨.ref C :: rest, []⟩) Q E ⟨h, g, d, t, os⟩ := by
  repeat (first | with_reducible refine wpAny_loadPart_at hC ?_ | with_reducible refine wpAny_madeBy_exc hC ?_ | wp_step)
  refine codeAny_call_builtin_code (Code.quiet_builtin _ F.excBase_LookupError.quiet) (check_newK hbm hC ?_)
  refine newK hbm hC ?_ hrest
  show wpAny _ _ _ _ _ _
  have k : ∀ b o, h.get? b = some o → ((h.push (W.kdv_tup rest)).push (excO C h.objs.size)).get? b = some o := fun b o e => Heap.get?_push_of_some _ (Heap.get?_push_of_some _ e)
  have hC₁ := k _ _ hC
  have hget : ((h.push (W.kdv_tup rest)).push (excO C h.objs.size)).get? (h.objs.size + 1) = some (excO C h.objs.size) := by heap_get
  have hcC : (Value.ref C :: bm).contains (.ref C) = true := by simp
  have i1 := hi.keeps k
  have b1 := (hb (.ref (h.objs.size + 1))).keeps k
  unfold isInstance
  repeat (first | with_reducible refine wpAny_loadPart_at hget ?_ | (with_reducible refine wpAny_isSubtype_exc hC₁ ?_; rw [hcC]) | wp_step)
  show wpAny _ _ (typeLookup (.ref C) _) _ _ _
  refine i1.at ?_
  refine wpAny_holding (wpAny_bind (b1.at ?_))
  refine wpAny_bind (wpAny_call (codeAny_mono hq fun r s' z => ?_))
  rcases r with e | (v | _ | _ | _) <;> first | exact z | exact z.elim | skip
  obtain ⟨rfl, z⟩ := z
  first
    | exact wpAny_pure (wpAny_pure z)
    | (wp_walk; exact z)
theorem callK (hbm : bm = keTail) {rest : List Value} {fI : Addr}
    (hC : h.get? C = some (excClassObj nm q C N bs bm hdct sn sub ab col dd k0 k1 k2 k3 k5 "LookupError.__new__"))
    (hi : W.Looks (model prog w) h (typeLookup (.ref C) "__init__") (some (.ref fI))) (hb : ∀ self, W.Looks (model prog w) h (bindSpecial (.ref fI) self) (.ref fI, [self])) (hrest : rest.length ≤ sizeLine)
    (hq : codeAny (model prog w) (A.under (.builtin "type.__call__" ⟨.ref C :: rest, []⟩)) (.call (.ref fI) ⟨.ref (h.objs.size + 1) :: rest, []⟩) (W.InitBack (h.objs.size + 1) R)
      ⟨(h.push (W.kdv_tup rest)).push (excO C h.objs.size), g, d, t, os⟩) :
    codeAny (model prog w) A (.call (.ref C) ⟨rest, []⟩) R ⟨h, g, d, t, os⟩ := by
  have f1 := tc_lookup
  have f2 := tc_bind (.ref C)
  have hTy : (⟨h, g, d, t, os⟩ : Shared).TypeIs (.ref C) "type" := ⟨_, hC, rfl⟩
  refine codeAny_of_tree ?_
  show wpAny _ _ (callAny (.ref C) _) _ _ _
  repeat (any_goals (first | assumption | with_reducible refine wpAny_loadPart_at hC ?_ | wp_step))
  refine ⟨rfl, ?_⟩
  refine codeAny_call_builtin_at (Code.quiet_builtin _ (by decide +kernel)) entry_typeCall (wpAny_check_type_call_sub hC (type_callK hbm hC hi hb hrest ?_))
  refine codeAny_mono hq fun r s' z => ?_
  rcases r with e | (v | _ | _ | _) <;> exact z
theorem exc_osaK {hp : Heap} {tk0 : Nat} {K : W.Frag} {name : Str} {tk : Tok} {v : Value} {x C : Addr} {fv : Array Value} {cd : ClassData}
    (X : K.In hp) (hx : hp.get? x = some { cls := .ref C, data := .fields fv }) (hcd : W.clsIn K C = some cd) (hm : cd.mro = .ref C :: keTail) (hh : cd.hasDict = true) (ha : W.findIn K (.ref C) name = some none)
    (hq : ∀ h' tk' dx, (∀ b o, b ≠ x → hp.get? b = some o → h'.get? b = some o) → hp.objs.size ≤ dx → dx ≠ x → h'.get? x = some { cls := .ref C, dict := some dx, data := .fields fv } →
      h'.Ns1 dx (fun y => if y = name then some v else none) → R (.ok (.ret .none)) ⟨h', g, d, tk', os⟩) :
    codeAny (model prog w) A (.call (.builtin "object.__setattr__") ⟨[.ref x, .str name tk, v], []⟩) R ⟨hp, g, d, tk0, os⟩ := by
  have I : W.InstAt hp x { cls := .ref C, data := .fields fv } C none := ⟨hx, rfl, rfl, trivial⟩
  have SF := F.store_object
  have ne : cd.mro.isEmpty = false := by rw [hm]; rfl
  have hob : cd.mro.contains (.type "object") = true := by
    rw [hm, List.contains_cons, show keTail.contains (.type "object") = true by decide +kernel, Bool.or_true]
  have hxs : x ≠ hp.objs.size := Nat.ne_of_lt (Heap.lt_size hx)
  have sub : W.Looks (model prog w) hp (isInstance (.ref x) (.type "object")) true := I.type.andThen (W.looks_mroIn X (by unfold W.mroIn; rw [hcd, Option.bind_some, if_neg (by rw [ne]; decide), hob]))
  refine codeAny_call_builtin SF.slot.plain SF.entry (@W.check_slot (model prog w) _ _ ⟨hp, g, d, tk0, os⟩ "object.__setattr__" "object" "__setattr__" (.ref x) [.str name tk, v] [] _ SF.kind SF.split sub (SF.args (.ref x) (.str name tk) v) ?_)
  have hmr : W.Looks (model prog w) hp (mroOf (.ref C)) cd.mro := (W.looks_clsIn X hcd).andThen .now
  have L3 : W.Looks (model prog w) hp (storeTaker? none) none := .now
  have hcls : W.Looks (model prog w) hp (classData C) cd := W.looks_clsIn X hcd
  have pass : refuseLoop (.ref x) "__setattr__" cd.mro = pure () := by rw [hm, refuseLoop_ref]; exact ke_pass _
  rw [W.osa_eq, refuse_eq]
  refine wpAny_bind (wpAny_bind (I.type.at (wpAny_bind (hmr.at ?_))))
  rw [pass]
  refine wpAny_pure (wpAny_bind (I.type.at (wpAny_bind ((W.looks_findIn X ha).at (wpAny_bind (L3.at ?_))))))
  show wpAny _ _ (storeInOwnDict (.ref x) (.ref C) (.str name tk) name v false) _ _ _
  obtain ⟨nm, bs, mro, ns, qn, hd, sn, sb, ab, col, del⟩ := cd
  dsimp only at hh
  subst hh
  unfold storeInOwnDict ownDictForStores
  repeat (first | with_reducible refine store_in_new ?_ ?_ | with_reducible refine wpAny_loadPart_at hx ?_ | with_reducible refine hcls.at ?_ | wp_step)
  · exact ⟨_, #[], _, (Heap.get?_update_ne _ _ _ _ hxs.symm).trans (Heap.get?_push_at rfl rfl), rfl, fun e he => absurd he (by simp), fun _ => rfl⟩
  · intro h' tk' hn' hs
    have hx₁ : (hp.push { cls := .type "dict", data := .dict #[] }).get? x = some { cls := .ref C, data := .fields fv } := Heap.get?_push_of_some _ hx
    refine hq h' tk' hp.objs.size (fun b o hb ho => ?_) (Nat.le_refl _) hxs.symm ?_ hn'
    · exact (hs.2 b (Nat.ne_of_lt (Heap.lt_size ho))).trans ((Heap.get?_update_ne _ _ _ _ hb).trans (Heap.get?_push_of_some _ ho))
    · exact (hs.2 x hxs).trans (Heap.get?_update_self _ hx₁ rfl)
end
/-- what such a class must be -/
structure XIniK (P : Program) (K : PySem.W.Frag) (C : Addr) (fld : Str) (qual : Str) (st : Stmt) (fI : Addr) : Prop where
  oex : OexK K C
  ini : PySem.W.findIn K (.ref C) "__init__" = some (some (.ref fI))
  ty : PySem.W.typeIn K (.ref fI) = some (.type "function")
  no : PySem.W.findIn K (.ref C) fld = some none
  sup : PySem.W.ks_superIn K C C "__init__" = some (some (.builtin "KeyError.__init__"))
  subV : PySem.W.subIn K (.ref C) (.type "KeyError") = some true
  subC : PySem.W.mroIn K C (.ref C) = some true
  opq : PySem.W.nsIn K cStatics "thirdparty.any" = some none
  top : (P.main.scope.names.lookup ("super" : Str)).isSome = false
  fn : XFn P K C qual st fI
section
open PySem.W
variable {P : Program} {w : World} {A : Around} {E : Value → Shared → Prop} {h : Heap} {g : Array GenState} {d : Drawn} {t : Nat} {os : OsState}
/-- super().__init__(), bound, called -/
theorem call_mwK {nm q : Str} {C N : Addr} {bs bm : List Value} {hdct : Bool} {sn : List Str} {sub : List Value} {ab : Bool} {col : Option Bool} {dd : Option Addr} {k0 k1 k2 k3 k5 : Option Value} {u e t0 : Addr} {Q : Value → Shared → Prop}
    (hC : h.get? C = some (excClassObj nm q C N bs bm hdct sn sub ab col dd k0 k1 k2 k3 k5 "LookupError.__new__")) (he : h.get? e = some (excObj C t0 none .none)) (hu : h.get? u = some (kxs_mw "KeyError.__init__" e))
    (hq : ∀ h' t1, (∀ b o, b ≠ e → h.get? b = some o → h'.get? b = some o) → h'.get? e = some (excObj C t1 none .none) → Q .none ⟨h', g, d, t, os⟩) :
    wpAny (model P w) A (call (.ref u) []) Q E ⟨h, g, d, t, os⟩ := by
  refine wpAny_call (codeAny_of_tree ?_)
  show wpAny _ A.in1 (callAny (.ref u) ⟨[], []⟩) _ _ _
  simp only [callAny]
  refine wpAny_bind (wpAny_load hu ?_)
  simp only [kxs_mw, show (Value.type "method-wrapper" == Value.type "method" || Value.type "method-wrapper" == Value.type "builtin_function_or_method" || Value.type "method-wrapper" == Value.type "method-wrapper") = true by decide, if_true]
  refine KFB.if_so (by decide) ?_
  refine wpAny_bind (check_bound_initK hC he rfl ?_)
  refine wpAny_bind (wpAny_pure (wpAny_pure ?_))
  refine ⟨plainId_quiet ke_plain _, codeAny_builtin ke_entry ?_⟩
  exact exc_init_tree (cls := .ref C) (t0 := t0) (dv := none) (c2 := .none) (c3 := .none) (b4 := .bool false) he (Nat.zero_le _) fun h' k e' _ => hq h' _ k e'
/-- the body of such an __init__ -/
theorem init_bodyK {K : Frag} {mg mb m : Str → Option Value} {C fI x t0 L cda cc : Addr} {fld prm qual : Str} {st : Stmt} {v : Value} {Q : Flow → Shared → Prop} {p0 p1 p2 p3 p4 p5 p6 p7 p8 : Pos} {env : Env} {body : List Stmt}
    {oc ccl cl : Value} {od cdd cld : Option Addr} {osl ccs csl : Array (Option Value)} {fd : FuncData} {ar : Arg} {vs : Array Value} {tf : Tok} {file : Str}
    (T : XIniK P K C fld qual st fI) (hsup : mg "super" = none) (kin : K.In h) (gl : h.Ns mainGlobals mg) (bl : h.Ns builtinsNs mb) (hmb : mb "super" = some (.type "super"))
    (hk : env.scope.kind = .function) (hl1 : env.kindOf "self" = some .local) (hl2 : env.kindOf prm = some .local) (hks : env.kindOf "super" = some .globalImplicit) (hkc : env.kindOf "__class__" = some .free)
    (eg : env.globals = mainGlobals) (eb : env.builtins = builtinsNs) (el : env.locals = L) (ec : env.cells.lookup ("__class__" : Str) = some cc) (ef : env.func = some fI) (ed : env.code = .ref cda)
    (lf : K.lookup fI = some ⟨oc, od, .func fd, osl⟩) (hp : (fd.params.posonlyargs ++ fd.params.args).head? = some ar) (har : ar.arg = "self") (lcda : K.lookup cda = some ⟨ccl, cdd, .fields vs, ccs⟩) (hvs : vs[2]? = some (.str file tf)) (hfile : ((P.main.file : Str) == file) = true)
    (lcc : K.lookup cc = some ⟨cl, cld, .cell (some (.ref C)), csl⟩) (hns : h.Ns L m) (m1 : m "self" = some (.ref x)) (m2 : m prm = some v) (hLx : L ≠ x) (hKx : ∀ b o, K.lookup b = some o → b ≠ x) (hdbg : (prm == ("__debug__" : Str)) = false)
    (hx : h.get? x = some (excObj C t0 none .none)) {pl : Sem Bool}
    (he : eval (.Call (.Attribute (.Call (.Name "super" p0) [] [] p1) "__init__" p2) [] [] p3) env = (do
      let ov ← attributeBase (.Call (.Name "super" p0) [] [] p1) "__init__" env (eval (.Call (.Name "super" p0) [] [] p1) env)
      standAt p2.atName
      let (f, first) ← holding [ov] (getMethod ov "__init__" pl)
      callWith p3 f first (backTo p3 (starEach [] env)) []))
    (hq : ∀ h' t' dx t1, (∀ b o, b ≠ x → h.get? b = some o → h'.get? b = some o) → x < dx → h'.get? x = some (excObj C t1 (some dx) .none) → h'.Ns1 dx (fun y => if y = fld then some v else none) → Q .next ⟨h', g, d, t', os⟩) :
    PySem.wpAt (model P w) A (.func body env) (execs [.Expr (.Call (.Attribute (.Call (.Name "super" p0) [] [] p1) "__init__" p2) [] [] p3) p4, .Assign [.Attribute (.Name "self" p5) fld p6] (.Name prm p7) p8] env) Q E ⟨h, g, d, t, os⟩ := by
  obtain ⟨nm, q, N, bs, bm, sn, sub, ab, col, dd, k0, k1, k2, k3, k5, hC, hbm⟩ := T.oex.cls
  have hcl : clsIn K C = some { name := nm, bases := bs, mro := .ref C :: bm, ns := N, qualname := q, hasDict := true, slotNames := sn, subclasses := sub, abstract := ab, collection := col, hasDel := false } := by unfold clsIn; rw [hC] <;> rfl
  have hi : interactive env = false := by unfold interactive; rw [hk]; rfl
  have hsw : swapsWith (.Call (.Attribute (.Call (.Name "super" p0) [] [] p1) "__init__" p2) [] [] p3) none p4.line env = pure false := rfl
  have hsu := T.sup
  unfold ks_superIn at hsu
  rw [hcl, Option.bind_some] at hsu
  refine ks_wpAt_execs_cons (ks_wpAt_Expr_any (ks_wpAt_MethodCall ?_ he) hi hsw)
  refine ks_wpAt_super_base hks hkc (by decide) ef (kin _ _ lf) rfl hp ed (kin _ _ lcda) rfl hvs hfile T.top ?_
  refine ks_loadName_global hk hks (Calls.loadGlobal_builtin (by rw [eg]; exact gl) hsup (by rw [eb]; exact bl) hmb ⟨rfl, ?_⟩)
  refine wpAny_loadName_free hk hkc ec ⟨_, kin _ _ lcc, rfl⟩ ?_
  rw [har]
  refine wpAny_loadName_local hk hl1 (by rw [el]; exact hns) m1 ?_
  refine ks_wpAny_isType_cls (kin _ _ hC) rfl ⟨rfl, ?_⟩
  refine ks_wpAny_call_super (kin _ _ hC) rfl hx rfl (fun c e => ?_) (looks_mroIn kin T.subC) (fun h1 hso k1 => ?_)
  · cases e
  have kin1 : K.In h1 := kin.keeps k1
  have I1 : InstAt h1 x (excObj C t0 none .none) C none := ⟨k1 _ _ hx, rfl, rfl, trivial⟩
  have hI : Looks (model P w) h1 (isInstance (.ref x) (.type "KeyError")) true := I1.type.andThen (looks_subIn kin1 T.subV)
  refine kxs_getMethod kxs_KeyErrorK hso (looks_opaque kin1 T.opq) (l₀ := .ref C :: bm) (fun A Q E s k q => wpAny_bind ((looks_clsIn kin1 hcl) A _ E s k (wpAny_pure q))) rfl kin1 hsu hI (ks_ne kin1 I1 hcl) (by decide) ?_
  have hu : (h1.push (kxs_mw "KeyError.__init__" x)).get? h1.objs.size = some (kxs_mw "KeyError.__init__" x) := Heap.get?_push_at rfl rfl
  have k2 : ∀ b o, h1.get? b = some o → (h1.push (kxs_mw "KeyError.__init__" x)).get? b = some o := fun b o e => Heap.get?_push_of_some _ e
  refine kxs_callWith (i := "KeyError.__init__") (x := x) rfl (evalArgs_empty ⟨hu, ?_⟩)
  refine call_mwK (k2 _ _ (kin1 _ _ hC)) (k2 _ _ (k1 _ _ hx)) hu fun h3 t1 k3 hx3 => ?_
  have kk : ∀ b o, b ≠ x → h.get? b = some o → h3.get? b = some o := fun b o hb e => k3 b o hb (k2 _ _ (k1 _ _ e))
  have kin3 : K.In h3 := fun b o e => kk b o (hKx b o e) (kin b o e)
  have ns3 : h3.Ns L m := ns_at hns fun o e => kk L o hLx e
  refine ks_wpAt_execs_cons (ks_wpAt_Assign_Attr (wpAt_of_wpAny (wpAny_Name (wpAny_loadName_local hk hl2 (by rw [el]; exact ns3) m2 ?_) hdbg)) ?_)
  · refine wpAny_Name (wpAny_loadName_local hk hl1 (by rw [el]; exact ns3) m1 ?_) (by decide)
    refine set_plain kin3 (ox := excObj C t1 none .none) (od := none) ⟨hx3, rfl, rfl, trivial⟩ T.oex.sa ?_
    refine exc_osaK kin3 hx3 hcl (by rw [hbm]) rfl T.no (fun h4 tk' dx k4 dn dne hx4 hn4 => ?_)
    exact wpAt_of_wpAny (wpAny_execs_nil (hq h4 tk' dx t1 (fun b o hb e => k4 b o hb (kk b o hb e)) (Nat.lt_of_lt_of_le (Heap.lt_size hx3) dn) hx4 hn4))
  · rfl
theorem init_runK {K : Frag} {mg : Str → Option Value} {base : Heap} {C fI x t0 : Addr} {fld prm qual : Str} {st : Stmt} {v : Value} {R : Result → Shared → Prop}
    (T : XIniK P K C fld qual st fI) (Sh : XShape st fld prm) (M : Mod K mg base) (hsup : mg "super" = none) (bk : ∀ b o, base.get? b = some o → h.get? b = some o) (hroom : A.depth < recursionLimit) (hxb : base.get? x = none)
    (hx : h.get? x = some (excObj C t0 none .none))
    (hq : ∀ h' t' dx t1, (∀ b o, b ≠ x → h.get? b = some o → h'.get? b = some o) → x < dx → h'.get? x = some (excObj C t1 (some dx) .none) → h'.Ns1 dx (fun y => if y = fld then some v else none) → R (.ok (.ret .none)) ⟨h', g, d, t', os⟩) :
    codeAny (model P w) A (.call (.ref fI) ⟨[.ref x, v], []⟩) R ⟨h, g, d, t, os⟩ := by
  obtain ⟨oc, od, kV, doc, pm, ct, an, osl, cda, cc, ccl, cl, cdd, cld, vs, ccs, csl, tf, file, lf, lcd, lcda, hvs, hfile, lcc⟩ := T.fn.fn
  obtain ⟨p0, p1, p2, p3, p4, p5, p6, p7, p8, hb, hev⟩ := Sh.body
  have kin : K.In h := M.kin.keeps bk
  obtain ⟨mb, hmb, hmb2⟩ := M.blt
  have L0 : x < h.objs.size := Heap.lt_size hx
  obtain ⟨ar, hp, har⟩ : ∃ ar, ((defArgs st).posonlyargs ++ (defArgs st).args).head? = some ar ∧ ar.arg = "self" := by
    have := Sh.fst
    rcases e : ((defArgs st).posonlyargs ++ (defArgs st).args).head? with _ | ar
    · rw [e] at this; cases this
    · rw [e] at this
      exact ⟨ar, rfl, Option.some.inj this⟩
  refine ks_codeAny_call_defAt (fd := ksFn "__init__" qual (defArgs st) (defBody st) (defScope st) .none kV doc pm an (.ref cda) ct cc) (body := defBody st) (binds := [("self", .ref x), (prm, v)]) hroom (kin _ _ lf) rfl (M.nolimit.keeps bk) (codeRec_of kin lcd) rfl (.of_eq (Sh.bind _ _ _ _ _ _ _ _ _ _)) Sh.cell ?_ (fun h0 hns k0 => ?_) Sh.co Sh.gen Sh.kind
  · intro y hy
    simp only [List.mem_cons, List.not_mem_nil, or_false] at hy
    rcases hy with rfl | rfl
    · exact Sh.l1
    · exact Sh.l2
  have kin0 : K.In h0 := kin.keeps k0
  have gl0 : h0.Ns mainGlobals mg := (M.glob.keeps bk).keeps k0
  have bl0 : h0.Ns builtinsNs mb := (hmb.keeps bk).keeps k0
  have lself : (([("self", .ref x), (prm, v)] : List (Str × Value)).reverse.lookup ("self" : Str)) = some (.ref x) := by
    show List.lookup ("self" : Str) [(prm, v), ("self", Value.ref x)] = _
    rw [List.lookup_cons, beq_eq_false_iff_ne.mpr Sh.sp]
    rfl
  have lprm : (([("self", .ref x), (prm, v)] : List (Str × Value)).reverse.lookup prm) = some v := by
    show List.lookup prm [(prm, v), ("self", Value.ref x)] = _
    rw [List.lookup_cons, beq_self_eq_true]
  rw [hb]
  obtain ⟨pl, he⟩ := hev (ksEnv qual (defScope st) h.objs.size fI (.ref cda) cc)
  refine ks_wpAt_mono (Q := fun f s' => f = .next ∧ R (.ok (.ret .none)) s') (E := fun _ _ => False) (init_bodyK (fld := fld) (prm := prm) (m := fun y => ([("self", .ref x), (prm, v)] : List (Str × Value)).reverse.lookup y) T hsup kin0 gl0 bl0 ((hmb2 "super" (by decide)).trans (by decide +kernel)) Sh.kind Sh.l1 Sh.l2 Sh.ks Sh.kc rfl rfl rfl rfl rfl rfl lf hp har lcda hvs hfile lcc hns lself lprm (Nat.ne_of_gt L0) (fun b o e z => ?_) Sh.dbg (k0 _ _ hx) he fun h' t' dx t1 k lt hx' hn' => ⟨rfl, hq h' t' dx t1 (fun b o hb e => k b o hb (k0 b o e)) lt hx' hn'⟩) (fun f s' z => ?_) (fun _ _ z => z.elim)
  · have := M.kin b o e
    rw [z, hxb] at this
    cases this
  · obtain ⟨rfl, z⟩ := z
    exact z
end
/-! ### C(e) -/
section
variable {X : Cx}
end
/-! ### raise C(e) -/
/-- an own error with a field, of the world -/
structure ExcK (P : Program) (G : Wd) (n fld prm : Str) (st : Stmt) : Prop where
  ex : ∃ (C fI : Addr) (qual : Str), G.mg n = some (.ref C) ∧ XIniK P G.K C fld qual st fI ∧ XShape st fld prm
section
variable {P : Program} {w : World} {G : Wd} {base : Heap} {k : Nat} {X : Cx} {Wx : WX}
end
section
variable {K : PySem.W.Frag} {C fI cda cc : Addr}
def oexkB (K : PySem.W.Frag) (C : Addr) : Bool := match K.lookup C with
  | some ⟨.type "type", _, .cls cd, sl⟩ => (match cd.mro, sl.toList with
    | .ref C' :: bm, [_, _, _, _, some (.builtin n), _] => C' == C && n == "LookupError.__new__" && !cd.hasDel && cd.hasDict && bm == keTail
    | _, _ => false)
  | _ => false
theorem oexkB_ok (q : oexkB K C = true) : ∃ nm q N bs bm sn sub ab col dd k0 k1 k2 k3 k5, K.lookup C = some (excClassObj nm q C N bs bm true sn sub ab col dd k0 k1 k2 k3 k5 "LookupError.__new__") ∧ bm = keTail := by
  unfold oexkB at q
  split at q
  · rename_i dd cd sl ho
    split at q
    · rename_i C' bm k0 k1 k2 k3 n k5 hm hs
      simp only [Bool.and_eq_true, beq_iff_eq, Bool.not_eq_true'] at q
      obtain ⟨⟨⟨⟨rfl, rfl⟩, hdel⟩, hdd⟩, ht⟩ := q
      obtain ⟨nm, bs, mro, ns, qn, hd, sn, sub, ab, col, del⟩ := cd
      dsimp only at hm hdel hdd
      subst hm hdel hdd
      have hsl : sl = #[k0, k1, k2, k3, some (.builtin "LookupError.__new__"), k5] := by
        obtain ⟨l⟩ := sl
        simp only at hs
        rw [hs]
      subst hsl
      exact ⟨nm, qn, ns, bs, bm, sn, sub, ab, col, dd, k0, k1, k2, k3, k5, ho, ht⟩
    · cases q
  · cases q
def oexckB (K : PySem.W.Frag) (C : Addr) : Bool := oexkB K C && (decide (PySem.W.findIn K (.ref C) "__setattr__" = some (some (.builtin "object.__setattr__"))) && (decide (PySem.W.subIn K (.ref C) (.type "BaseException") = some true) && (decide (PySem.W.typeIn K (.ref C) = some (.type "type")) && PySem.W.keepIn K (.ref C))))
theorem oexckB_ok (h : oexckB K C = true) : OexK K C := by
  obtain ⟨h1, h⟩ := Bool.and_eq_true_iff.mp h
  obtain ⟨h2, h⟩ := Bool.and_eq_true_iff.mp h
  obtain ⟨h3, h⟩ := Bool.and_eq_true_iff.mp h
  obtain ⟨h4, h5⟩ := Bool.and_eq_true_iff.mp h
  exact ⟨oexkB_ok h1, of_decide_eq_true h2, of_decide_eq_true h3, of_decide_eq_true h4, h5⟩
def xinikB (P : Program) (K : PySem.W.Frag) (C fI : Addr) (fld : Str) : Bool := oexckB K C && (decide (PySem.W.findIn K (.ref C) "__init__" = some (some (.ref fI))) && (decide (PySem.W.typeIn K (.ref fI) = some (.type "function")) && (decide (PySem.W.findIn K (.ref C) fld = some none) &&
  (decide (PySem.W.ks_superIn K C C "__init__" = some (some (.builtin "KeyError.__init__"))) && (decide (PySem.W.subIn K (.ref C) (.type "KeyError") = some true) && (decide (PySem.W.mroIn K C (.ref C) = some true) && (decide (PySem.W.nsIn K cStatics "thirdparty.any" = some none) && !(P.main.scope.names.lookup ("super" : Str)).isSome)))))))
theorem xinikB_ok {P : Program} {fld qual : Str} {st : Stmt} (h : xinikB P K C fI fld = true) (F : XFn P K C qual st fI) : XIniK P K C fld qual st fI := by
  obtain ⟨h1, h⟩ := Bool.and_eq_true_iff.mp h
  obtain ⟨h2, h⟩ := Bool.and_eq_true_iff.mp h
  obtain ⟨h3, h⟩ := Bool.and_eq_true_iff.mp h
  obtain ⟨h4, h⟩ := Bool.and_eq_true_iff.mp h
  obtain ⟨h5, h⟩ := Bool.and_eq_true_iff.mp h
  obtain ⟨h6, h⟩ := Bool.and_eq_true_iff.mp h
  obtain ⟨h7, h⟩ := Bool.and_eq_true_iff.mp h
  obtain ⟨h8, h9⟩ := Bool.and_eq_true_iff.mp h
  exact ⟨oexckB_ok h1, of_decide_eq_true h2, of_decide_eq_true h3, of_decide_eq_true h4, of_decide_eq_true h5, of_decide_eq_true h6, of_decide_eq_true h7, of_decide_eq_true h8, by simpa using h9, F⟩
end
end Fb
end

section
set_option Elab.async false
set_option linter.all false
set_option maxRecDepth 100000
set_option maxHeartbeats 4000000
/-! except clauses with a name, the error's fields any data (D.exn). -/
namespace Fb
open PySem PySem.Spec PyProof.Rows L2
theorem lookF {G : Wd} {N : Addr → Prop} {H : Hp} (f : Str) : ∀ {fs : List (Str × D)} {gs : List (Str × V)} {d : D}, RepF G N H fs gs → fs.lookup f = some d → ∃ v, gs.lookup f = some v ∧ Rep G N H d v
  | [], _, _, _, e => nomatch e
  | (g, x) :: fs, _, d, ⟨w, ws, e1, r, rs⟩, e => by
    subst e1
    rw [List.lookup_cons] at e ⊢
    cases c : f == g with
    | true => rw [c] at e; cases e; exact ⟨w, rfl, r⟩
    | false => rw [c] at e; exact lookF f rs e
theorem OwnOk.all {G : Wd} {H0 H : Hp} {N0 : Addr → Prop} {S : Nat ⊕ Nat → Option Addr} {σ : Fb.St} {ρ : En} (o : OwnOk G H0 N0 S σ H ρ) : OwnOk G H0 N0 (fun _ => none) σ H (Fb.frz (List.range ρ.length) ρ) where
  new := fun _ _ e => nomatch e
  kind := fun _ _ e => nomatch e
  inj := fun _ _ _ e => nomatch e
  shr := fun i d e => let ⟨v, e1, r⟩ := (o.frz _).shr i d e; ⟨v, e1, r.sub fun _ z => ⟨z.1, fun _ e => nomatch e⟩⟩
  own := fun i d e => by
    obtain ⟨a, _, e2, _⟩ := (o.frz (List.range ρ.length)).own i d e
    have h1 := (cut_some e2).2
    have h2 : i < (Fb.frz (List.range ρ.length) ρ).length := (List.getElem?_eq_some_iff.mp e).1
    rw [show (Fb.frz (List.range ρ.length) ρ).length = ρ.length from frzFrom_len] at h2
    exact absurd (List.mem_range.mpr h2) h1
  nst := fun i d l e hl => by
    have h1 := (cut_some ((o.frz (List.range ρ.length)).nst i d l e hl)).2
    have h2 : i < (Fb.frz (List.range ρ.length) ρ).length := (List.getElem?_eq_some_iff.mp e).1
    rw [show (Fb.frz (List.range ρ.length) ρ).length = ρ.length from frzFrom_len] at h2
    exact absurd (List.mem_range.mpr h2) h1
inductive HdsU (X : Cx) (n : Str) : List ExceptHandler → List (Value × Bool × (Addr → Value → Option Addr → TS)) → Prop
  | nil : HdsU X n [] []
  | cons {x : Str} {c : Value} {ts : Addr → Value → Option Addr → TS} {b₀ : Stmt} {suite : List Stmt} {np pos' : Pos} {hds : List ExceptHandler} {l : List (Value × Bool × (Addr → Value → Option Addr → TS))} (hc : Names X x c)
      (hsu : ∀ (a : Addr) (oe : Obj) (cls : Value) (d : Option Addr) (pn : List (Addr × Obj)), Zc cls d oe → (∃ vs, oe.data = .fields vs) → PSs (X.suite a ((a, oe) :: pn)) (b₀ :: suite) (ts a cls d)) (r : HdsU X n hds l) :
      HdsU X n (.ExceptHandler (some (.Name x np)) (some n) (b₀ :: suite) pos' :: hds) ((c, true, ts) :: l)
  | consU {x : Str} {c : Value} {ts : Addr → Value → Option Addr → TS} {b₀ : Stmt} {suite : List Stmt} {np pos' : Pos} {hds : List ExceptHandler} {l : List (Value × Bool × (Addr → Value → Option Addr → TS))} (hc : Names X x c)
      (hsu : ∀ (a : Addr) (oe : Obj) (cls : Value) (d : Option Addr) (pn : List (Addr × Obj)), Zc cls d oe → (∃ vs, oe.data = .fields vs) → PSs (X.suite a ((a, oe) :: pn)) (b₀ :: suite) (ts a cls d)) (r : HdsU X n hds l) :
      HdsU X n (.ExceptHandler (some (.Name x np)) none (b₀ :: suite) pos' :: hds) ((c, false, ts) :: l)
section
variable {X : Cx} {n : Str} {i : Nat} {body : List Stmt} {h₀ : ExceptHandler} {hds : List ExceptHandler} {l : List (Value × Bool × (Addr → Value → Option Addr → TS))} {pos : Pos} {tb : WX → TS} {Wout : WX}
end
/-- the clauses: class name, which classes it takes, its suite for each class that it takes -/
abbrev HdlX := Str × List (Str × Bool) × Bool × (Str → Addr → Option Addr → En → WS)
section
variable {P : Program} {w : World} {G : Wd} {base : Heap} {k : Nat} {X : Cx} {Wx : WX}
def tsX (G : Wd) (M : List (Str × Bool)) (s : Str → Addr → Option Addr → En → WS) : Addr → Value → Option Addr → TS := fun a cls d D σ H => ∃ m, M.lookup m = some true ∧ G.mg m = some cls ∧ tS G WxF (s m a d) D σ H
inductive HdsX (G : Wd) (X : Cx) (n : Str) : List ExceptHandler → List HdlX → List (Value × Bool × (Addr → Value → Option Addr → TS)) → Prop
  | nil : HdsX G X n [] [] []
  | cons (nmd : Bool) {nm : Str} {C : Addr} {M : List (Str × Bool)} {s : Str → Addr → Option Addr → En → WS} {b₀ : Stmt} {suite : List Stmt} {np pos' : Pos} {hds : List ExceptHandler} {hs : List HdlX} {l : List (Value × Bool × (Addr → Value → Option Addr → TS))}
      (gC : G.mg nm = some (.ref C)) (tk : ∀ m b, M.lookup m = some b → ∃ D, G.mg m = some (.ref D) ∧ PySem.W.exmOne G.K (.ref D) (.ref C) = some b) (hg : Gl X nm) (hdb : (nm == ("__debug__" : Str)) = false)
      (hsu : ∀ (m : Str), M.lookup m = some true → ∀ (D : Addr), G.mg m = some (.ref D) → ∀ (a : Addr) (dd : Option Addr) (oe : Obj) (pn : List (Addr × Obj)), Zc (.ref D) dd oe → (∃ vs, oe.data = .fields vs) → CzH G (X.suite a ((a, oe) :: pn)) → DSs G (X.suite a ((a, oe) :: pn)) WxF (b₀ :: suite) (s m a dd))
      (r : HdsX G X n hds hs l) :
      HdsX G X n (.ExceptHandler (some (.Name nm np)) (if nmd = true then some n else none) (b₀ :: suite) pos' :: hds) ((nm, M, nmd, s) :: hs) ((.ref C, nmd, tsX G M s) :: l)
theorem HdsX.mono {n : Str} (Z : Cz P w G base k X Wx) : ∀ {hds : List ExceptHandler} {hs : List HdlX} {l : List (Value × Bool × (Addr → Value → Option Addr → TS))}, HdsX G X n hds hs l → ∀ h ∈ hs, ∀ m, h.2.1.lookup m = some true → ∀ a dd ρ, W.Mono (h.2.2.2 m a dd ρ)
  | _, _, _, .nil => fun h hh => nomatch hh
  | _, _, _, .cons _ gC tk hg hdb hsu r => fun h hh m h0 a dd ρ => by
    rcases List.mem_cons.mp hh with rfl | hh
    · obtain ⟨D, gD, _⟩ := tk _ _ h0
      have hz : Zc (.ref D) dd ({ cls := .ref D, dict := dd, data := .fields #[] } : Obj) := ⟨rfl, rfl⟩
      exact (hsu m h0 D gD a dd _ [] hz ⟨_, rfl⟩ (Z.suite a _)).mono ρ
    · exact HdsX.mono Z r h hh m h0 a dd ρ
/-! ### in a suite: e.f, isinstance(e, ..) -/
end
/-! ### the suites of a clause, class by class -/
section
variable {G : Wd} {X : Cx} {suite : List Stmt}
end
end Fb
end

section

end

section
set_option Elab.async false
set_option linter.all false
set_option maxRecDepth 100000
/-! Statements that are never reached: a program that asks what is false. -/
namespace Fb
open PySem PySem.Spec PyProof.Rows L2
section
variable {G : Wd} {X : Cx} {Wx : WX}
end
end Fb
end

section
set_option Elab.async false
set_option linter.all false
set_option maxRecDepth 100000
set_option maxHeartbeats 4000000
/-! a set of texts, with its table: what is walked -/
namespace Fb
open PySem PySem.Spec PyProof.Rows L2
def keyT (e : Int × Value) : Str := match e.2 with | .str k _ => k | _ => ""
def GoodT (P : Program) (w : World) (e : Int × Value) : Prop := ∃ k tk, e.2 = Value.str k tk ∧ e.1 = (strKind P w).hash k
def SetW (P : Program) (w : World) (h : Heap) (a : Addr) (S : Str → Bool) (n : Nat) : Prop :=
  ∃ o es ep t, h.get? a = some o ∧ o.ExactSet ∧ o.data = .set es ep t ∧ (∀ e ∈ es.toList, GoodT P w e) ∧ (es.toList.map keyT).Nodup ∧ (∀ k, S k = true ↔ k ∈ es.toList.map keyT) ∧
    es.size < scanBound ∧ t.fits es.size = true ∧ es.size = n ∧ Ris t.place.toList ∧ (w.params.followText "set-order" = true ∨ t.led = true)
section
variable {P : Program} {w : World} {h h' : Heap} {a : Addr} {S : Str → Bool} {n : Nat}
theorem SetW.at (R : SetW P w h a S n) (k : ∀ o, h.get? a = some o → h'.get? a = some o) : SetW P w h' a S n := by
  obtain ⟨o, es, ep, t, ho, r⟩ := R
  exact ⟨o, es, ep, t, k o ho, r⟩
theorem SetW.lt (R : SetW P w h a S n) : a < h.objs.size := by
  obtain ⟨o, es, ep, t, ho, r⟩ := R
  exact Heap.lt_size ho
theorem SetW.congr {S' : Str → Bool} (R : SetW P w h a S n) (e : ∀ k, S' k = S k) : SetW P w h a S' n := by
  have q : S' = S := funext e
  rw [q]; exact R
end
section
variable {P : Program} {w : World} {A : Around} {E : Value → Shared → Prop} {s : Shared} {a : Addr} {S : Str → Bool} {n : Nat}
end
section
variable {prog : Program} {w : World} {A : Around} {R : Result → Shared → Prop} {I : Addr} {fp wr : List Addr} {G : Array GenState → Array GenState → Prop} {n : Nat} {P : Nat → Value → Prop} {St : Nat → Shared → Prop}
end
section
variable {P : Program} {w : World} {A : Around} {E : Value → Shared → Prop} {s : Shared}
end
end Fb
end

section
set_option Elab.async false
set_option linter.all false
set_option maxRecDepth 100000
set_option maxHeartbeats 4000000
/-! sorted(set(xs)), xs a list of texts. -/
namespace Fb
open PySem PySem.Spec PyProof.Rows L2
section
variable {P : Program} {w : World} {A : Around} {E : Value → Shared → Prop} {s : Shared} {a : Addr}
end
end Fb
end

section
set_option Elab.async false
set_option linter.all false
set_option maxRecDepth 100000
set_option maxHeartbeats 4000000
/-! sorted(set(xs)), xs a list of texts: the data and the rule. -/
namespace Fb
open PySem PySem.Spec PyProof.Rows L2
def ltT (x y : Str) : Prop := x.cps.toList < y.cps.toList
instance (x y : Str) : Decidable (ltT x y) := by unfold ltT; infer_instance
end Fb
end

section
set_option Elab.async false
set_option linter.all false
set_option maxRecDepth 100000
set_option maxHeartbeats 4000000
/-! sorted(set(xs)), xs a list of texts: the rule. -/
namespace Fb
open PySem PySem.Spec PyProof.Rows L2
section
variable {X : Cx}
end
section
variable {G : Wd} {X : Cx} {Wx : WX}
end
end Fb
end

section
set_option Elab.async false
set_option linter.all false
set_option maxRecDepth 100000
set_option maxHeartbeats 4000000
/-! len(set(xs)), xs a tuple of tuples of texts: the kit's HandS.TupSets turned from ints to texts, and to a tuple -/
namespace Fb
namespace TX
open PySem PySem.Spec PyProof.Rows L2

abbrev thash (P : Program) (w : World) (k : List Str) : Int := tupleKeyHash (strKind P w) k
/-- the tuple at a has the ints k -/
abbrev IsT (P : Program) (w : World) (h : Heap) (k : List Str) (a : Addr) : Prop := IsTupleKey (strKind P w) h k a

/-! ### the model's words, opened -/
section
variable {P : Program} {w : World} {A : Around} {E : Value → Shared → Prop} {s : Shared}
/-! ### small questions asked of tuples -/
/-! ### the set of tuples -/
def rowsOf (P : Program) (w : World) (L : List (Addr × List Str)) : List (Int × Value) := L.map fun p => (thash P w p.2, Value.ref p.1)
structure SetTR (P : Program) (w : World) (h : Heap) (a : Addr) (L : List (Addr × List Str)) (es : Array (Int × Value)) (ep : Nat) (t : SetTable) : Prop where
  ob : ∃ o, h.get? a = some o ∧ o.ExactSet ∧ o.data = .set es ep t
  rows : es.toList = rowsOf P w L
  tab : TabOk t (L.map fun p => thash P w p.2)
  nd : (L.map (·.2)).Nodup
  tup : ∀ p ∈ L, IsT P w h p.2 p.1
  plain : True
  led : w.params.followText "set-order" = true ∨ t.led = true
  room : L.length * 5 < t.mask * 3
  few : L.length < 64
variable {a : Addr} {L : List (Addr × List Str)} {es : Array (Int × Value)} {ep : Nat} {t : SetTable}
theorem SetTR.size (R : SetTR P w s.heap a L es ep t) : es.size = L.length := by
  have h := congrArg List.length R.rows
  unfold rowsOf at h
  rw [Array.length_toList, List.length_map] at h
  exact h
theorem SetTR.fits (R : SetTR P w s.heap a L es ep t) : t.fits es.size = true := by
  have h1 := R.tab.sz
  rw [List.length_map] at h1
  have h2 := R.size
  have h3 := R.room
  unfold SetTable.fits SetTable.fill
  rw [R.tab.dm, Bool.and_eq_true, beq_iff_eq, decide_eq_true_eq]
  show t.place.size = es.size ∧ t.place.size + 0 ≤ t.mask
  omega
theorem SetTR.entry (R : SetTR P w s.heap a L es ep t) {i : Nat} {p : Addr × List Str} (h : L[i]? = some p) : es[i]? = some (thash P w p.2, Value.ref p.1) := by
  rw [← Array.getElem?_toList, R.rows]
  unfold rowsOf
  rw [List.getElem?_map, h] <;> rfl
end
section
variable {P : Program} {w : World} {A : Around} {E : Value → Shared → Prop} {s : Shared}
variable {a : Addr} {L : List (Addr × List Str)} {es : Array (Int × Value)} {ep : Nat} {t : SetTable}
end

/-- what the set has got from the first i items -/
structure Got (ks : List (Addr × List Str)) (i : Nat) (L : List (Addr × List Str)) : Prop where
  sub : ∀ p ∈ L, p ∈ ks.take i
  all : ∀ p ∈ ks.take i, p.2 ∈ L.map (·.2)
  len : L.length ≤ i
theorem take_next {α : Type} {l : List α} {i : Nat} {x : α} (h : l[i]? = some x) : l.take (i + 1) = l.take i ++ [x] := by
  rw [List.take_succ, h] <;> rfl
theorem Got.same {ks L : List (Addr × List Str)} {i : Nat} {x : Addr × List Str} (g : Got ks i L) (h : ks[i]? = some x) (hm : x.2 ∈ L.map (·.2)) : Got ks (i + 1) L := by
  refine ⟨fun p hp => ?_, fun p hp => ?_, Nat.le_succ_of_le g.len⟩
  · rw [take_next h]
    exact List.mem_append_left _ (g.sub p hp)
  · rw [take_next h] at hp
    rcases List.mem_append.mp hp with z | z
    · exact g.all p z
    · rw [List.mem_singleton.mp z]; exact hm
theorem Got.more {ks L L' : List (Addr × List Str)} {i : Nat} {x : Addr × List Str} (g : Got ks i L) (h : ks[i]? = some x) (pm : L'.Perm (x :: L)) : Got ks (i + 1) L' := by
  refine ⟨fun p hp => ?_, fun p hp => ?_, ?_⟩
  · rw [take_next h]
    rcases List.mem_cons.mp (pm.mem_iff.mp hp) with e | z
    · rw [e]; exact List.mem_append_right _ (List.mem_singleton.mpr rfl)
    · exact List.mem_append_left _ (g.sub p z)
  · rw [(pm.map (·.2)).mem_iff, List.map_cons]
    rw [take_next h] at hp
    rcases List.mem_append.mp hp with z | z
    · exact List.mem_cons_of_mem _ (g.all p z)
    · rw [List.mem_singleton.mp z]; exact List.mem_cons_self
  · rw [pm.length_eq, List.length_cons]
    exact Nat.succ_le_succ g.len

section
variable {P : Program} {w : World} {A : Around} {E : Value → Shared → Prop} {s : Shared}
theorem SetTR.keep {h h' : Heap} {a : Addr} {L : List (Addr × List Str)} {es : Array (Int × Value)} {ep : Nat} {t : SetTable} (R : SetTR P w h a L es ep t) (ha : ∀ o, h.get? a = some o → h'.get? a = some o) (ht : ∀ p ∈ L, IsT P w h' p.2 p.1) : SetTR P w h' a L es ep t := by
  obtain ⟨o, ho, r⟩ := R.ob
  exact ⟨⟨o, ha o ho, r⟩, R.rows, R.tab, R.nd, ht, R.plain, R.led, R.room, R.few⟩
end
end TX
open PySem PySem.Spec PyProof.Rows L2
/-- the texts of a tuple of tuples of texts -/
def tupT : D → Option (List Str)
  | .tup ds => txtsOf ds
  | _ => none
section
variable {X : Cx}
end
section
variable {G : Wd} {X : Cx} {Wx : WX}
end
end Fb
end

section
set_option Elab.async false
set_option linter.all false
set_option maxRecDepth 100000
set_option maxHeartbeats 4000000
/-! An instance that an owned instance holds alone: its methods, and a new one stored. -/
namespace Fb
open PySem PySem.Spec PyProof.Rows L2
section
variable {G : Wd} {N N' M : Addr → Prop} {H H' : Hp}
end
section
variable {G : Wd} {H0 H H' : Hp} {N0 N' : Addr → Prop} {σ : Fb.St} {ρ : En}
end
section
variable {P : Program} {w : World} {G : Wd} {base : Heap} {k j : Nat} {X : Cx} {Wx : WX} {f : Addr} {fd : FuncData} {ps : List Str} {c c2 : Str} {sem : List D → Rm}
end
end Fb
end

section
set_option Elab.async false
set_option linter.all false
set_option maxRecDepth 100000
set_option maxHeartbeats 4000000
/-! Methods of an instance that an owned instance holds alone; a new one stored. -/
namespace Fb
open PySem PySem.Spec PyProof.Rows L2
section
variable {P : Program} {w : World} {G : Wd} {base : Heap} {k j : Nat} {X : Cx} {Wx : WX} {f : Addr} {fd : FuncData} {ps : List Str} {c c2 : Str} {sem : List D → Rm}
/-! ### methods -/
/-! ### o.m( *e) -/
end
end Fb
end

section
set_option Elab.async false
set_option linter.all false
set_option maxRecDepth 100000
set_option maxHeartbeats 4000000
/-! A new instance stored as what slot i's instance holds alone. -/
namespace Fb
open PySem PySem.Spec PyProof.Rows L2
section
variable {G : Wd} {N N' M : Addr → Prop} {H H' : Hp}
end
section
variable {G : Wd} {X : Cx} {Wx : WX} {c : Str}
end
end Fb
end

section
set_option Elab.async false
set_option linter.all false
set_option maxRecDepth 100000
set_option maxHeartbeats 4000000
/-! A dict of the written part: its keys texts, its values tuples of texts of the written part. -/
namespace Fb
open PySem PySem.Spec PyProof.Rows L2
def KTup (K : PySem.W.Frag) (b : Addr) (xs : List V) : Prop := ∃ (o : Obj) (its : Array Value) (n : Nat), K.lookup b = some o ∧ o.cls = .type "tuple" ∧ o.data = .seq its n ∧ its.size ≤ sizeLine ∧ Vals xs its.toList
def BEnts (K : PySem.W.Frag) (w : World) : List DictEntry → List (Str × List Str) → Prop
  | [], [] => True
  | e :: es, p :: ps => (∃ tk b, e = ⟨hashStr w p.1, .str p.1 tk, .ref b⟩ ∧ KTup K b (p.2.map V.str)) ∧ BEnts K w es ps
  | _, _ => False
structure BDict (K : PySem.W.Frag) (w : World) (a : Addr) (kvs : List (Str × List Str)) : Prop where
  ob : ∃ es n, K.lookup a = some ⟨.type "dict", none, .dict es n, #[]⟩ ∧ BEnts K w es.toList kvs
  low : (a == sysModules) = false
def lookS : List (Str × List Str) → Str → Option (List Str)
  | [], _ => none
  | p :: ps, k => if p.1 = k then some p.2 else lookS ps k
theorem ents_find {K : PySem.W.Frag} {P : Program} {w : World} {k : Str} : ∀ {es : List DictEntry} {kvs : List (Str × List Str)}, BEnts K w es kvs →
    match lookS kvs k with
    | some ts => ∃ b, (es.find? fun e => (strKind P w).is k e.key).map (·.val) = some (.ref b) ∧ KTup K b (ts.map V.str)
    | none => (es.find? fun e => (strKind P w).is k e.key).map (·.val) = none
  | [], [], _ => rfl
  | e :: es, p :: ps, ⟨⟨tk, b, he, hk⟩, hs⟩ => by
    subst he
    by_cases h : p.1 = k
    · have e1 : lookS (p :: ps) k = some p.2 := if_pos h
      have e2 : List.find? (fun e : DictEntry => (strKind P w).is k e.key) (⟨hashStr w p.1, .str p.1 tk, .ref b⟩ :: es) = some ⟨hashStr w p.1, .str p.1 tk, .ref b⟩ := List.find?_cons_of_pos (show (p.1 == k) = true by simp [h])
      rw [e1, e2]
      exact ⟨b, rfl, hk⟩
    · have e1 : lookS (p :: ps) k = lookS ps k := if_neg h
      have e2 : List.find? (fun e : DictEntry => (strKind P w).is k e.key) (⟨hashStr w p.1, .str p.1 tk, .ref b⟩ :: es) = es.find? (fun e : DictEntry => (strKind P w).is k e.key) := List.find?_cons_of_neg (show ¬ (p.1 == k) = true by simp [h])
      rw [e1, e2]
      exact ents_find hs
  | [], _ :: _, h => h.elim
  | _ :: _, [], h => h.elim
theorem ents_keys {K : PySem.W.Frag} {P : Program} {w : World} : ∀ {es : List DictEntry} {kvs : List (Str × List Str)}, BEnts K w es kvs → ∀ e ∈ es, ∃ k, (strKind P w).is k e.key = true ∧ e.hash = (strKind P w).hash k
  | [], [], _, e, he => nomatch he
  | e0 :: es, p :: ps, ⟨⟨tk, b, h0, hk⟩, hs⟩, e, he => by
    rcases List.mem_cons.mp he with rfl | he
    · subst h0
      exact ⟨p.1, strKind_is P w p.1 tk, rfl⟩
    · exact ents_keys hs e he
  | [], _ :: _, h, _, _ => h.elim
  | _ :: _, [], h, _, _ => h.elim
section
variable {X : Cx} {pins : List (Addr × Obj)} {σ : L2.St} {H : Hp} {s : Shared} {a : Addr} {kvs : List (Str × List Str)}
theorem BDict.map (B : BDict X.K X.w a kvs) (I : Inv X pins σ H s) : ∃ f, s.heap.MapOf (strKind X.prog X.w) a f ∧ ∀ k, match lookS kvs k with
    | some ts => ∃ b, f k = some (.ref b) ∧ KTup X.K b (ts.map V.str)
    | none => f k = none := by
  obtain ⟨es, n, hl, he⟩ := B.ob
  have ho := I.kIn a _ hl
  refine ⟨fun k => findBy (strKind X.prog X.w).is es k, ⟨_, es, n, ho, ⟨rfl, rfl, rfl⟩, rfl, fun e m => ents_keys he e (by simpa using m), fun _ => rfl⟩, fun k => ?_⟩
  have := ents_find (P := X.prog) (k := k) he
  have e2 : findBy (strKind X.prog X.w).is es k = (es.toList.find? fun e => (strKind X.prog X.w).is k e.key).map (·.val) := by
    unfold findBy
    rw [← Array.find?_toList]
  dsimp only
  rw [e2]
  exact this
end
theorem BDict.x {P : Program} {w : World} {G : Wd} {base : Heap} {k : Nat} {X : Cx} {Wx : WX} {a : Addr} {kvs : List (Str × List Str)} (B : BDict G.K w a kvs) (Z : Cz P w G base k X Wx) : BDict X.K X.w a kvs := by
  rw [Z.K, Z.w]; exact B
section
variable {G : Wd} {X : Cx} {Wx : WX} {a : Addr} {kvs : List (Str × List Str)}
end
end Fb
end

section
set_option Elab.async false
set_option linter.all false
set_option maxRecDepth 100000
set_option maxHeartbeats 4000000
/-! x, *y = a list. -/
namespace Fb
open PySem PySem.Spec PyProof.Rows L2
section
variable {prog : Program} {w : World} {A : Around} {E : Value → Shared → Prop} {s : Shared}
variable {I : Addr} {fp wr : List Addr} {G : Array GenState → Array GenState → Prop} {n : Nat} {P : Nat → Value → Prop} {St : Nat → Shared → Prop}
end
end Fb
end

section
set_option Elab.async false
set_option linter.all false
set_option maxRecDepth 100000
set_option maxHeartbeats 4000000
/-! x, *y = a list: the rules; return e if a test that changes else f. -/
namespace Fb
open PySem PySem.Spec PyProof.Rows L2
section
variable {X : Cx} {pos p1 p2 p3 : Pos}
end
section
variable {G : Wd} {X : Cx} {Wx : WX}
end
end Fb
end

section
set_option Elab.async false
set_option linter.all false
set_option maxRecDepth 100000
set_option maxHeartbeats 4000000
/-! e.replace(y, z), y and z written texts, where a written text has been met ahead. -/
namespace Fb
open PySem PySem.Spec PyProof.Rows L2
section
variable {M : Model} {A : Around} {E : Value → Shared → Prop} {s : Shared} {env : Env}
end
section
variable {X : Cx} {e f : Expr} {te tf to : TE} {y z : Str} {j k : Nat} {c0 c1 apos pos p p' : Pos}
end
/-! ### over data -/
structure DET (G : Wd) (X : Cx) (Wx : WX) (e : Expr) (m : Ro → W Ex D) : Prop where
  pet : PET X e (tE G Wx m)
  mono : ∀ ρ, W.Mono (m ρ)
section
variable {G : Wd} {X : Cx} {Wx : WX} {o f : Expr} {y z : Str} {m : Ro → W Ex D} {j k : Nat} {c0 c1 apos pos : Pos}
end
end Fb
end

section
set_option Elab.async false
set_option linter.all false
set_option maxRecDepth 100000
set_option maxHeartbeats 4000000
/-! x.append(e), e a new list of plain things: nothing loses its owner. -/
namespace Fb
open PySem PySem.Spec PyProof.Rows L2
section
variable {G : Wd} {H0 H H1 : Hp} {N0 : Addr → Prop} {S : Nat ⊕ Nat → Option Addr} {σ : Fb.St} {ρ : En}
end
section
variable {G : Wd} {X : Cx} {Wx : WX}
end
end Fb
end

section
set_option Elab.async false
set_option linter.all false
set_option maxRecDepth 100000
set_option maxHeartbeats 4000000
/-! A new instance that may change, made of nothing. -/
namespace Fb
open PySem PySem.Spec PyProof.Rows L2
section
variable {P : Program} {w : World} {G : Wd} {base : Heap} {k j : Nat} {X : Cx} {Wx : WX}
end
end Fb
end

section
set_option Elab.async false
set_option linter.all false
set_option maxRecDepth 100000
set_option maxHeartbeats 4000000
/-! Dicts whose keys are tuples, tracked or of the written part: told by their keys' addresses. -/
namespace Fb
open PySem PySem.Spec PyProof.Rows L2
abbrev Sp := List Key
/-- an entry: the key, where the key stands, the value -/
abbrev NE := Sp × Addr × V
def NRel (p : NE) (q : Sp × Addr × Value) : Prop := p.1 = q.1 ∧ p.2.1 = q.2.1 ∧ RelV p.2.2 q.2.2
def lookN (es : List NE) (k : Sp) : Option V := (es.find? fun e => decide (e.1 = k)).map (·.2.2)
def repN (k : Sp) (v : V) (e : NE) : NE := if e.1 = k then (e.1, e.2.1, v) else e
def putN (es : List NE) (k : Sp) (b : Addr) (v : V) : List NE := if (lookN es k).isSome then es.map (repN k v) else es ++ [(k, b, v)]
section
variable (P : Program) (w : World)
def NetP (a : Addr) (es : List NE) : Heap → Prop := fun h => es.length ≤ sizeLine ∧ (a == sysModules) = false ∧ ∃ xs : List (Sp × Addr × Value), Paired NRel es xs ∧
  ∃ o dd ep, h.get? a = some o ∧ o.ExactDict ∧ o.data = .dict dd ep ∧ dd.toList = xs.map (entryOfKey (tupleKind (mixKind P w))) ∧ (xs.map (·.1)).Nodup
def NetO (a : Addr) (es : List NE) : HO := .ext (NetP P w a es)
end
def KeyAt (K : PySem.W.Frag) (H : Hp) (b : Addr) (k : Sp) : Prop := TupAt K H b (k.map kV)
structure NetAt (X : Cx) (H : Hp) (a : Addr) (es : List NE) : Prop where
  at_ : Rd H a (NetO X.prog X.w a es)
  key : ∀ e ∈ es, KeyAt X.K H e.2.1 e.1
section
variable {P : Program} {w : World}
end
section
variable {X : Cx} {pins : List (Addr × Obj)} {σ : L2.St} {H : Hp} {s : Shared} {a b : Addr} {y v : V} {u r : Value} {o : Option V} {A : Around} {E : Value → Shared → Prop}
theorem key_is (I : Inv X pins σ H s) {k : Sp} (h : KeyAt X.K H b k) : (tupleKind (mixKind X.prog X.w)).is s.heap k b := by
  rcases h with h | ⟨ob, h⟩ | ⟨ob, its, n, h1, h2, h3, h4, h5⟩
  · exact key_of I.hok h
  · obtain ⟨e, _, its, rv, o, h1, h2, n, h3⟩ := (show ObjOk X.prog X.w H s.heap b (.frz ob (.tup (k.map kV))) from I.hok b _ h)
    exact ⟨o, its.toArray, n, h1, h2, h3, by simpa using items_are rv⟩
  · exact ⟨ob, its, n, I.kIn b ob h1, h2, h3, items_are h5⟩
theorem net_of (I : Inv X pins σ H s) {es : List NE} (h : NetAt X H a es) : es.length ≤ sizeLine ∧ (a == sysModules) = false ∧ ∃ xs, Paired NRel es xs ∧ s.heap.DictOfH (tupleKind (mixKind X.prog X.w)) a xs := by
  obtain ⟨p, _⟩ := (show ObjOk X.prog X.w H s.heap a (NetO X.prog X.w a es) from rd_of I.hok h.at_)
  obtain ⟨z, y, xs, rr, o, dd, ep, e, c1, c2, c3, c4⟩ := p
  refine ⟨z, y, xs, rr, o, dd, ep, e, c1, c2, c3, fun x hx => ?_, c4⟩
  have all : ∀ {l : List NE} {m : List (Sp × Addr × Value)}, Paired NRel l m → (∀ e ∈ l, KeyAt X.K H e.2.1 e.1) → ∀ x ∈ m, (tupleKind (mixKind X.prog X.w)).is s.heap x.1 x.2.1 := by
    intro l m q
    induction q with
    | nil => intro _ x hx; exact nomatch hx
    | @cons p q ps qs hq t ih =>
      intro hk x hx
      rcases List.mem_cons.mp hx with e | hx
      · subst e
        rw [← hq.1, ← hq.2.1]
        exact key_is I (hk p List.mem_cons_self)
      · exact ih (fun e he => hk e (List.mem_cons_of_mem _ he)) x hx
  exact all rr h.key x hx
end
/-! ### rules -/
def tNNew (X : Cx) : TE := fun _ H Q => ∀ p, H p = none → Q (.ref p) (upd H p (NetO X.prog X.w p []))
section
variable {X : Cx} {o i e f value : Expr} {pos pos' tpos apos cpos : Pos} {td ty tv tx : TE}
end
end Fb
end

section
set_option Elab.async false
set_option linter.all false
set_option maxRecDepth 100000
set_option maxHeartbeats 4000000
/-! Dicts keyed by tuples: displays, walks over the keys. -/
namespace Fb
open PySem PySem.Spec PyProof.Rows L2
def putAllN (es : List NE) (ks : List (Addr × Sp × V)) : List NE := ks.foldl (fun es x => putN es x.2.1 x.1 x.2.2) es
section
variable {X : Cx} {pins : List (Addr × Obj)} {σ : L2.St} {A : Around} {E : Value → Shared → Prop}
end
/-- {k: v, ..}, the keys tuples -/
def tNDisp (X : Cx) (trs : List (TE × TE)) : TE := fun σ H Q => ∀ p, H p = none → tPairs trs σ (upd H p (NetO X.prog X.w p [])) fun ps H2 => H2 p = some (NetO X.prog X.w p []) ∧ ∃ ks : List (Addr × Sp × V), ps = ks.map (fun x => (.ref x.1, x.2.2)) ∧ (∀ x ∈ ks, KeyAt X.K H2 x.1 x.2.1) ∧ ks.length ≤ 15 ∧ Q (.ref p) (upd H2 p (NetO X.prog X.w p (putAllN [] ks)))
/-! ### walks -/
end Fb
end

section
set_option Elab.async false
set_option linter.all false
set_option maxRecDepth 100000
set_option maxHeartbeats 4000000
/-! Nets: dicts of dicts of ints, keyed by tuples. -/
namespace Fb
open PySem PySem.Spec PyProof.Rows L2
theorem heap_fld (a : Addr) (vs : Array Value) : ∃ h : Heap, h.get? a = some { cls := .none, data := .fields vs } := by
  refine ⟨⟨Array.replicate (a + 1) { cls := .none, data := .fields vs }, {}⟩, ?_⟩
  unfold Heap.get?
  have : (Array.replicate (a + 1) ({ cls := .none, data := .fields vs } : Obj))[a]? = some { cls := .none, data := .fields vs } := by
    rw [Array.getElem?_replicate, if_pos (Nat.lt_succ_self a)]
  rw [this]
theorem netO_no {P : Program} {w : World} {a : Addr} {es : List NE} : NoT a (NetO P w a es) := ⟨fun _ z => (nomatch z), fun q z => by
  unfold LamX.CodeO NetO at z
  injection z with z
  obtain ⟨h, e⟩ := heap_fld a #[.none, .str q 0]
  have c : NetP P w a es h := by
    rw [z]
    exact ⟨_, _, 0, e, rfl, rfl⟩
  obtain ⟨_, _, xs, _, o, dd, ep, h1, _, h2, _⟩ := c
  rw [e] at h1
  cases h1
  cases h2⟩
/-! ### plain -/
abbrev PI1 := List (Sp × Int)
abbrev PR := List (Sp × PI1)
def getI (l : PI1) (k : Sp) : Option Int := (l.find? fun e => decide (e.1 = k)).map (·.2)
def getR (R : PR) (k : Sp) : Option PI1 := (R.find? fun e => decide (e.1 = k)).map (·.2)
def putI (l : PI1) (k : Sp) (v : Int) : PI1 := if (getI l k).isSome then l.map (fun e => if e.1 = k then (e.1, v) else e) else l ++ [(k, v)]
def defI (l : PI1) (k : Sp) (v : Int) : PI1 := if (getI l k).isSome then l else l ++ [(k, v)]
def setdR (R : PR) (k : Sp) : PR := if (getR R k).isSome then R else R ++ [(k, [])]
def modR (k : Sp) (f : PI1 → PI1) (R : PR) : PR := R.map fun e => if e.1 = k then (e.1, f e.2) else e
def tieR (R : PR) (a b : Sp) : PR := modR b (fun l => defI l a 0) (setdR (modR a (fun l => putI l b 1) (setdR R a)) b)
/-! ### how a net lies -/
abbrev IE := Sp × Addr × Int
/-- an entry: the key, where it stands, where the inner dict stands, its entries -/
abbrev RE := Sp × Addr × Addr × List IE
def innN (l : List IE) : List NE := l.map fun i => (i.1, i.2.1, .int i.2.2)
def outN (rm : List RE) : List NE := rm.map fun e => (e.1, e.2.1, .ref e.2.2.1)
def innP (l : List IE) : PI1 := l.map fun i => (i.1, i.2.2)
def plainR (rm : List RE) : PR := rm.map fun e => (e.1, innP e.2.2.2)
structure RoomAt (P : Program) (w : World) (K : PySem.W.Frag) (H0 H : Hp) (r : Addr) (rm : List RE) : Prop where
  grow : ∀ b o, H0 b = some o → (∀ ps, o ≠ .tbl ps) → H b = some o
  fre : ∀ b, H b = none → H0 b = none
  new : H0 r = none
  out : H r = some (NetO P w r (outN rm))
  key : ∀ e ∈ rm, KeyAt K H e.2.1 e.1
  inn : ∀ e ∈ rm, H0 e.2.2.1 = none ∧ e.2.2.1 ≠ r ∧ H e.2.2.1 = some (NetO P w e.2.2.1 (innN e.2.2.2)) ∧ ∀ i ∈ e.2.2.2, KeyAt K H i.2.1 i.1
  nd : (rm.map fun e => e.2.2.1).Nodup
  kd : (rm.map fun e => e.1).Nodup
/-- what is no such dict stays -/
def KeepX (P : Program) (w : World) (H H' : Hp) : Prop := ∀ b o, H b = some o → (∀ es, o ≠ NetO P w b es) → H' b = some o
section
variable {P : Program} {w : World} {H H' H1 : Hp}
theorem KeepX.refl (H : Hp) : KeepX P w H H := fun _ _ e _ => e
theorem KeepX.trans (a : KeepX P w H H1) (b : KeepX P w H1 H') : KeepX P w H H' := fun c o e n => b c o (a c o e n) n
theorem KeepX.new {p : Addr} {o : HO} (h : H p = none) : KeepX P w H (upd H p o) := fun b u e _ => by rw [upd_ne (ne_of_none e h)]; exact e
theorem KeepX.ext {p : Addr} {o : HO} {es : List NE} (h : H p = some (NetO P w p es)) : KeepX P w H (upd H p o) := fun b u e n => by
  rw [upd_ne]
  · exact e
  · rintro rfl
    rw [h] at e
    cases e
    exact n es rfl
theorem KeepX.key {K : PySem.W.Frag} (h : KeepX P w H H') {b : Addr} {k : Sp} (q : KeyAt K H b k) : KeyAt K H' b k := by
  rcases q with q | ⟨ob, q⟩ | q
  · exact .inl (h _ _ q fun _ z => by unfold NetO at z; cases z)
  · exact .inr (.inl ⟨ob, h _ _ q fun _ z => by unfold NetO at z; cases z⟩)
  · exact .inr (.inr q)
end
section
variable {P : Program} {w : World} {K : PySem.W.Frag} {H0 H : Hp} {r : Addr} {rm : List RE}
theorem outN_look (k : Sp) : ∀ rm : List RE, lookN (outN rm) k = (rm.find? fun e => decide (e.1 = k)).map fun e => V.ref e.2.2.1
  | [] => rfl
  | e :: rm => by
    have ih := outN_look k rm
    unfold lookN outN at *
    rw [List.map_cons, List.find?_cons, List.find?_cons]
    by_cases h : e.1 = k
    · simp [h]
    · simp only [h, decide_false]
      exact ih
theorem getR_plain (k : Sp) : ∀ rm : List RE, getR (plainR rm) k = (rm.find? fun e => decide (e.1 = k)).map fun e => innP e.2.2.2
  | [] => rfl
  | e :: rm => by
    have ih := getR_plain k rm
    unfold getR plainR at *
    rw [List.map_cons, List.find?_cons, List.find?_cons]
    by_cases h : e.1 = k
    · simp [h]
    · simp only [h, decide_false]
      exact ih
/-- a new thing beside -/
theorem RoomAt.beside (x : RoomAt P w K H0 H r rm) {p : Addr} {o : HO} (h : H p = none) : RoomAt P w K H0 (upd H p o) r rm := by
  have k : KeepX P w H (upd H p o) := .new h
  refine ⟨fun b u e nt => ?_, fun b e => ?_, x.new, ?_, fun e he => k.key (x.key e he), fun e he => ?_, x.nd, x.kd⟩
  · have := x.grow b u e nt
    rw [upd_ne (ne_of_none this h)]; exact this
  · refine x.fre b ?_
    by_cases c : b = p
    · rw [c]; exact h
    · rwa [upd_ne c] at e
  · rw [upd_ne (ne_of_none x.out h)]; exact x.out
  · obtain ⟨h1, h2, h3, h4⟩ := x.inn e he
    exact ⟨h1, h2, by rw [upd_ne (ne_of_none h3 h)]; exact h3, fun i hi => k.key (h4 i hi)⟩
/-- .. a heap that has grown -/
theorem RoomAt.grown (x : RoomAt P w K H0 H r rm) {H' : Hp} (g : ∀ b o, H b = some o → (∀ ps, o ≠ .tbl ps) → H' b = some o) (gt : ∀ b o, H0 b = some o → (∀ ps, o ≠ .tbl ps) → H' b = some o) (f : ∀ b, H' b = none → H b = none) : RoomAt P w K H0 H' r rm := by
  have k : ∀ {b : Addr} {k : Sp}, KeyAt K H b k → KeyAt K H' b k := fun {b k} q => by
    rcases q with q | ⟨ob, q⟩ | q
    · exact .inl (g _ _ q fun _ z => nomatch z)
    · exact .inr (.inl ⟨ob, g _ _ q fun _ z => nomatch z⟩)
    · exact .inr (.inr q)
  exact ⟨gt, fun b e => x.fre b (f b e), x.new, g _ _ x.out (fun _ z => nomatch z), fun e he => k (x.key e he), fun e he => by
    obtain ⟨h1, h2, h3, h4⟩ := x.inn e he
    exact ⟨h1, h2, g _ _ h3 (fun _ z => nomatch z), fun i hi => k (h4 i hi)⟩, x.nd, x.kd⟩
theorem RoomAt.uniq (x : RoomAt P w K H0 H r rm) {e e' : RE} (h : e ∈ rm) (h' : e' ∈ rm) (k : e.1 = e'.1) : e = e' := by
  have key : ∀ {l : List RE}, (l.map fun e => e.1).Nodup → ∀ {e e' : RE}, e ∈ l → e' ∈ l → e.1 = e'.1 → e = e' := by
    intro l
    induction l with
    | nil => intro _ e e' h; exact nomatch h
    | cons a l ih =>
      intro nd e e' h h' k
      rw [List.map_cons, List.nodup_cons] at nd
      rcases List.mem_cons.mp h with h1 | h1
      · rcases List.mem_cons.mp h' with h2 | h2
        · rw [h1, h2]
        · exact (nd.1 (List.mem_map.mpr ⟨e', h2, by rw [← k, h1]⟩)).elim
      · rcases List.mem_cons.mp h' with h2 | h2
        · exact (nd.1 (List.mem_map.mpr ⟨e, h1, by rw [k, h2]⟩)).elim
        · exact ih nd.2 h1 h2 k
  exact key x.kd h h' k
theorem nodup_at {l : List RE} (nd : (l.map fun e => e.2.2.1).Nodup) {e e' : RE} (h : e ∈ l) (h' : e' ∈ l) (k : e.2.2.1 = e'.2.2.1) : e = e' := by
  induction l with
  | nil => exact nomatch h
  | cons a l ih =>
    rw [List.map_cons, List.nodup_cons] at nd
    rcases List.mem_cons.mp h with h1 | h1
    · rcases List.mem_cons.mp h' with h2 | h2
      · rw [h1, h2]
      · exact (nd.1 (List.mem_map.mpr ⟨e', h2, by rw [← k, h1]⟩)).elim
    · rcases List.mem_cons.mp h' with h2 | h2
      · exact (nd.1 (List.mem_map.mpr ⟨e, h1, by rw [k, h2]⟩)).elim
      · exact ih nd.2 h1 h2
/-- an inner dict with other entries -/
theorem RoomAt.mod (x : RoomAt P w K H0 H r rm) {e : RE} (he : e ∈ rm) {l : List IE} (hl : ∀ i ∈ l, KeyAt K H i.2.1 i.1) {f : PI1 → PI1} (hf : innP l = f (innP e.2.2.2)) :
    RoomAt P w K H0 (upd H e.2.2.1 (NetO P w e.2.2.1 (innN l))) r (rm.map fun e' => if e'.1 = e.1 then (e'.1, e'.2.1, e'.2.2.1, l) else e') ∧ plainR (rm.map fun e' => if e'.1 = e.1 then (e'.1, e'.2.1, e'.2.2.1, l) else e') = modR e.1 f (plainR rm) := by
  obtain ⟨a0, a1, a2, a3⟩ := x.inn e he
  have kk : KeepX P w H (upd H e.2.2.1 (NetO P w e.2.2.1 (innN l))) := .ext a2
  have sm : ∀ e' : RE, (if e'.1 = e.1 then (e'.1, e'.2.1, e'.2.2.1, l) else e').1 = e'.1 ∧ (if e'.1 = e.1 then (e'.1, e'.2.1, e'.2.2.1, l) else e').2.1 = e'.2.1 ∧ (if e'.1 = e.1 then (e'.1, e'.2.1, e'.2.2.1, l) else e').2.2.1 = e'.2.2.1 := fun e' => by split <;> exact ⟨rfl, rfl, rfl⟩
  have mp : ∀ {β : Type} (g : RE → β), (∀ e', g (if e'.1 = e.1 then (e'.1, e'.2.1, e'.2.2.1, l) else e') = g e') → (rm.map fun e' => if e'.1 = e.1 then (e'.1, e'.2.1, e'.2.2.1, l) else e').map g = rm.map g := fun g hg => by
    rw [List.map_map]
    exact List.map_congr_left fun e' _ => hg e'
  refine ⟨⟨fun c u ec nt => ?_, fun c ec => ?_, x.new, ?_, fun e1 he1 => ?_, fun e1 he1 => ?_, ?_, ?_⟩, ?_⟩
  · have ne : c ≠ e.2.2.1 := fun z => by rw [z, a0] at ec; cases ec
    rw [upd_ne ne]; exact x.grow c u ec nt
  · by_cases c1 : c = e.2.2.1
    · rw [c1]; exact a0
    · rw [upd_ne c1] at ec; exact x.fre c ec
  · rw [upd_ne (Ne.symm a1), x.out]
    unfold outN
    rw [mp (fun e => (e.1, e.2.1, V.ref e.2.2.1)) fun e' => by obtain ⟨s1, s2, s3⟩ := sm e'; rw [s1, s2, s3]]
  · obtain ⟨e', he', rfl⟩ := List.mem_map.mp he1
    obtain ⟨s1, s2, s3⟩ := sm e'
    rw [s1, s2]
    exact kk.key (x.key e' he')
  · obtain ⟨e', he', rfl⟩ := List.mem_map.mp he1
    obtain ⟨h1, h2, h3, h4⟩ := x.inn e' he'
    by_cases c : e'.1 = e.1
    · obtain rfl : e' = e := x.uniq he' he c
      rw [if_pos rfl]
      exact ⟨h1, h2, upd_same, fun i hi => kk.key (hl i hi)⟩
    · rw [if_neg c]
      have ne : e'.2.2.1 ≠ e.2.2.1 := fun z => c (congrArg Prod.fst (nodup_at x.nd he' he z))
      exact ⟨h1, h2, by rw [upd_ne ne]; exact h3, fun i hi => kk.key (h4 i hi)⟩
  · rw [mp (fun e => e.2.2.1) fun e' => (sm e').2.2]; exact x.nd
  · rw [mp (fun e => e.1) fun e' => (sm e').1]; exact x.kd
  · unfold plainR modR
    rw [List.map_map, List.map_map]
    refine List.map_congr_left fun e' he' => ?_
    show ((if e'.1 = e.1 then (e'.1, e'.2.1, e'.2.2.1, l) else e').1, innP (if e'.1 = e.1 then (e'.1, e'.2.1, e'.2.2.1, l) else e').2.2.2) = if e'.1 = e.1 then (e'.1, f (innP e'.2.2.2)) else (e'.1, innP e'.2.2.2)
    by_cases c : e'.1 = e.1
    · rw [if_pos c, if_pos c, x.uniq he' he c, hf]
    · rw [if_neg c, if_neg c]
end
end Fb
end

section
set_option Elab.async false
set_option linter.all false
set_option maxRecDepth 100000
set_option maxHeartbeats 4000000
/-! Nets: defs told by what they do to the heap; tie. -/
namespace Fb
open PySem PySem.Spec PyProof.Rows L2
/-- the def at f, called with vs, does what pre says -/
structure FnR (P : Program) (w : World) (G : Wd) (base : Heap) (k : Nat) (f : Addr) (fd : FuncData) (ps : List Str) (pre : List V → Hp → VK → Prop) : Prop where
  run : ∀ (A : Around) (outer : List Env) (s : Shared) (H : Hp) (args : Args) (us : List Value) (vs : List V) (Q : VK) (E : XK), Room k A → A.guards = some [] → Env0 P w G.K G.mg base A outer s H →
    BindsTo s fd args (ps.zip us) → Vals vs us → vs.length = ps.length → pre vs H Q → codeAny (model P w) A (.call (.ref f) args) (CR (CX P w) outer P w H s Q E) s
/-- .. by its name -/
structure FnKR (P : Program) (w : World) (G : Wd) (base : Heap) (k : Nat) (x : Str) (ps : List Str) (pre : List V → Hp → VK → Prop) : Prop where
  ex : ∃ (f : Addr) (fd : FuncData), G.mg x = some (.ref f) ∧ PySem.W.keepIn G.K (.ref f) = true ∧ Binds G.K fd ps [] ∧ FnR P w G base k f fd ps pre
section
variable {P : Program} {w : World} {G : Wd} {base : Heap} {k j : Nat} {X : Cx} {Wx : WX}
end
/-! ### tie -/
theorem getR_setd (R : PR) (k : Sp) : (getR (setdR R k) k).isSome = true := by
  unfold setdR
  by_cases h : (getR R k).isSome = true
  · rw [if_pos h]; exact h
  · rw [if_neg h]
    unfold getR
    rw [List.find?_append]
    cases e : R.find? fun e => decide (e.1 = k) with
    | some x => rfl
    | none => simp
/-- what comes of a change of the net -/
structure Moved (P : Program) (w : World) (K : PySem.W.Frag) (H0 H : Hp) (r : Addr) (R' : PR) (H' : Hp) (rm' : List RE) : Prop where
  at_ : RoomAt P w K H0 H' r rm'
  keep : KeepX P w H H'
  pl : plainR rm' = R'
  tab : ∀ G : Wd, TabsG G H → TabsG G H'
section
variable {X : Cx} {H0 H : Hp} {r : Addr} {rm : List RE} {σ : L2.St}
end
end Fb
end

section
set_option Elab.async false
set_option linter.all false
set_option maxRecDepth 100000
set_option maxHeartbeats 4000000
/-! Nets: ways, plain. -/
namespace Fb
open PySem PySem.Spec PyProof.Rows L2
def cR (R : PR) (u v : Sp) : Option Int := (getR R u).bind fun l => getI l v
def cp (R : PR) (u v : Sp) : Prop := ∃ c, cR R u v = some c ∧ 0 < c
def ChR (R : PR) : List Sp → Prop
  | a :: b :: l => cp R a b ∧ ChR R (b :: l)
  | _ => True
structure IsWay (R : PR) (kB kE : Sp) (ks : List Sp) : Prop where
  hd : ks.head? = some kB
  ls : ks.getLast? = some kE
  ch : ChR R ks
  nd : ks.Nodup
def ClosedR (R : PR) : Prop := ∀ u v c, cR R u v = some c → (getR R v).isSome = true
/-- an entry of the search: a key, where it stands, whence -/
abbrev AE := Sp × Addr × Option (Sp × Addr)
def aV (e : AE) : V := match e.2.2 with
  | none => .non
  | some p => .ref p.2
def aN (ah : List AE) : List NE := ah.map fun e => (e.1, e.2.1, aV e)
def Has (ah : List AE) (k : Sp) : Prop := ∃ e ∈ ah, e.1 = k
inductive Tree (R : PR) (kB : Sp) : List AE → Prop
  | base (b : Addr) : Tree R kB [(kB, b, none)]
  | snoc {ah : List AE} {k : Sp} {b : Addr} {p : Sp × Addr} : Tree R kB ah → ¬ Has ah k → Has ah p.1 → cp R p.1 k → Tree R kB (ah ++ [(k, b, some p)])
theorem aN_look (k : Sp) : ∀ ah : List AE, lookN (aN ah) k = (ah.find? fun e => decide (e.1 = k)).map aV
  | [] => rfl
  | e :: ah => by
    have ih := aN_look k ah
    unfold lookN aN at *
    rw [List.map_cons, List.find?_cons, List.find?_cons]
    by_cases h : e.1 = k
    · simp [h]
    · simp only [h, decide_false]
      exact ih
section
variable {R : PR} {kB kE : Sp}
theorem Tree.nodup {ah : List AE} (t : Tree R kB ah) : (ah.map (·.1)).Nodup := by
  induction t with
  | base b => simp
  | @snoc ah k b p t h1 h2 h3 ih =>
    rw [List.map_append, List.nodup_append]
    refine ⟨ih, by simp, fun a ha c hc z => ?_⟩
    obtain ⟨e, he, rfl⟩ := List.mem_map.mp ha
    rw [List.map_cons, List.map_nil, List.mem_singleton] at hc
    exact h1 ⟨e, he, z.trans hc⟩
theorem Tree.begin {ah : List AE} (t : Tree R kB ah) : Has ah kB := by
  induction t with
  | base b => exact ⟨_, List.mem_singleton.mpr rfl, rfl⟩
  | snoc t h1 h2 h3 ih =>
    obtain ⟨e, he, z⟩ := ih
    exact ⟨e, List.mem_append_left _ he, z⟩
theorem Tree.split {ah : List AE} (t : Tree R kB ah) {e : AE} (he : e ∈ ah) : ∃ pre post, ah = pre ++ e :: post ∧ Tree R kB (pre ++ [e]) := by
  induction t with
  | base b =>
    rw [List.mem_singleton.mp he]
    exact ⟨[], [], rfl, .base b⟩
  | @snoc ah k b p t h1 h2 h3 ih =>
    rcases List.mem_append.mp he with he | he
    · obtain ⟨pre, post, rfl, t1⟩ := ih he
      exact ⟨pre, post ++ [(k, b, some p)], by simp, t1⟩
    · rw [List.mem_singleton.mp he]
      exact ⟨ah, [], rfl, .snoc t h1 h2 h3⟩
theorem Tree.last {l pre : List AE} {e : AE} (t : Tree R kB l) (hl : l = pre ++ [e]) : (pre = [] ∧ e.1 = kB ∧ e.2.2 = none) ∨ ∃ p, e.2.2 = some p ∧ Tree R kB pre ∧ Has pre p.1 ∧ cp R p.1 e.1 ∧ ¬ Has pre e.1 := by
  cases t with
  | base b =>
    cases pre with
    | nil =>
      simp only [List.nil_append, List.cons.injEq, and_true] at hl
      rw [← hl]
      exact .inl ⟨rfl, rfl, rfl⟩
    | cons a pre =>
      have := congrArg List.length hl
      simp at this
  | @snoc ah k b p t h1 h2 h3 =>
    obtain ⟨rfl, h⟩ := List.append_inj' hl rfl
    simp only [List.cons.injEq, and_true] at h
    rw [← h]
    exact .inr ⟨p, rfl, t, h2, h3, h1⟩
theorem Tree.look {ah : List AE} (t : Tree R kB ah) {e : AE} (he : e ∈ ah) : lookN (aN ah) e.1 = some (aV e) := by
  rw [aN_look]
  cases h : ah.find? fun e' => decide (e'.1 = e.1) with
  | none => exact (by simpa using List.find?_eq_none.mp h e he : False).elim
  | some e' =>
    have h1 := List.mem_of_find?_eq_some h
    have h2 : e'.1 = e.1 := by simpa using List.find?_some h
    have key : ∀ {l : List AE}, (l.map (·.1)).Nodup → ∀ {e e' : AE}, e ∈ l → e' ∈ l → e.1 = e'.1 → e = e' := by
      intro l
      induction l with
      | nil => intro _ e e' h; exact nomatch h
      | cons a l ih =>
        intro nd e e' h h' k
        rw [List.map_cons, List.nodup_cons] at nd
        rcases List.mem_cons.mp h with h1 | h1
        · rcases List.mem_cons.mp h' with h2 | h2
          · rw [h1, h2]
          · exact (nd.1 (List.mem_map.mpr ⟨e', h2, by rw [← k, h1]⟩)).elim
        · rcases List.mem_cons.mp h' with h2 | h2
          · exact (nd.1 (List.mem_map.mpr ⟨e, h1, by rw [k, h2]⟩)).elim
          · exact ih nd.2 h1 h2 k
    rw [key t.nodup h1 he h2]; rfl
theorem getR_mem {k : Sp} (h : (getR R k).isSome = true) : k ∈ R.map (·.1) := by
  unfold getR at h
  rw [Option.isSome_map] at h
  obtain ⟨e, he⟩ := Option.isSome_iff_exists.mp h
  exact List.mem_map.mpr ⟨e, List.mem_of_find?_eq_some he, by simpa using List.find?_some he⟩
theorem Tree.rooms {ah : List AE} (t : Tree R kB ah) (hc : ClosedR R) (hB : (getR R kB).isSome = true) : ∀ e ∈ ah, (getR R e.1).isSome = true := by
  induction t with
  | base b => intro e he; rw [List.mem_singleton.mp he]; exact hB
  | @snoc ah k b p t h1 h2 h3 ih =>
    intro e he
    rcases List.mem_append.mp he with he | he
    · exact ih e he
    · rw [List.mem_singleton.mp he]
      obtain ⟨c, h3, _⟩ := h3
      exact hc _ _ _ h3
theorem nodup_sub {α : Type} [DecidableEq α] : ∀ {l m : List α}, l.Nodup → (∀ x ∈ l, x ∈ m) → l.length ≤ m.length
  | [], _, _, _ => Nat.zero_le _
  | x :: l, m, nd, h => by
    rw [List.nodup_cons] at nd
    have hx := h x List.mem_cons_self
    have : l.length ≤ (m.erase x).length := nodup_sub nd.2 fun y hy => (List.mem_erase_of_ne (fun z => nd.1 (by rw [← z]; exact hy))).mpr (h y (List.mem_cons_of_mem _ hy))
    rw [List.length_erase_of_mem hx] at this
    have : 0 < m.length := List.length_pos_of_mem hx
    rw [List.length_cons]; omega
theorem Tree.len {ah : List AE} (t : Tree R kB ah) (hc : ClosedR R) (hB : (getR R kB).isSome = true) : ah.length ≤ R.length := by
  have := nodup_sub (m := R.map (·.1)) t.nodup fun x hx => by
    obtain ⟨e, he, rfl⟩ := List.mem_map.mp hx
    exact getR_mem (t.rooms hc hB e he)
  simpa using this
/-- the search: all found but the waiting are done -/
structure Srch (R : PR) (kB : Sp) (ah : List AE) (wt : List (Sp × Addr)) (act : Option (Sp × (Sp → Prop))) : Prop where
  tree : Tree R kB ah
  sub : ∀ x ∈ wt, Has ah x.1
  done : ∀ u, Has ah u → (∀ x ∈ wt, x.1 ≠ u) → (∀ z ∈ act, z.1 ≠ u) → ∀ v, cp R u v → Has ah v
  part : ∀ z ∈ act, Has ah z.1 ∧ ∀ v, z.2 v → cp R z.1 v → Has ah v
theorem Srch.pop {ah : List AE} {wt : List (Sp × Addr)} {x : Sp × Addr} (s : Srch R kB ah (wt ++ [x]) none) : Srch R kB ah wt (some (x.1, fun _ => False)) := by
  refine ⟨s.tree, fun y hy => s.sub y (List.mem_append_left _ hy), fun u hu h1 h2 => s.done u hu (fun y hy => ?_) (fun z hz => nomatch hz), fun z hz => ?_⟩
  · rcases List.mem_append.mp hy with hy | hy
    · exact h1 y hy
    · rw [List.mem_singleton.mp hy]
      exact h2 (x.1, fun _ => False) rfl
  · cases hz
    exact ⟨s.sub _ (List.mem_append_right _ (List.mem_singleton.mpr rfl)), fun _ z => z.elim⟩
theorem Srch.skip {ah : List AE} {wt : List (Sp × Addr)} {u v : Sp} {p : Sp → Prop} (s : Srch R kB ah wt (some (u, p))) (h : cp R u v → Has ah v) : Srch R kB ah wt (some (u, fun x => p x ∨ x = v)) := by
  refine ⟨s.tree, s.sub, fun x hx h1 h2 => s.done x hx h1 fun z hz => ?_, fun z hz => ?_⟩
  · cases hz; exact h2 (u, fun x => p x ∨ x = v) rfl
  · cases hz
    obtain ⟨a, b⟩ := s.part _ rfl
    refine ⟨a, fun x hx hc => ?_⟩
    rcases hx with hx | rfl
    · exact b x hx hc
    · exact h hc
theorem Has.snoc {ah : List AE} {k : Sp} {x : AE} (h : Has ah k) : Has (ah ++ [x]) k := by
  obtain ⟨e, he, z⟩ := h
  exact ⟨e, List.mem_append_left _ he, z⟩
theorem Srch.push {ah : List AE} {wt : List (Sp × Addr)} {u : Sp × Addr} {v : Sp × Addr} {p : Sp → Prop} (s : Srch R kB ah wt (some (u.1, p))) (h : cp R u.1 v.1) (n : ¬ Has ah v.1) : Srch R kB (ah ++ [(v.1, v.2, some u)]) (wt ++ [v]) (some (u.1, fun x => p x ∨ x = v.1)) := by
  have new : Has (ah ++ [(v.1, v.2, some u)]) v.1 := ⟨_, List.mem_append_right _ (List.mem_singleton.mpr rfl), rfl⟩
  refine ⟨.snoc s.tree n (s.part _ rfl).1 h, fun x hx => ?_, fun x hx h1 h2 y hy => ?_, fun z hz => ?_⟩
  · rcases List.mem_append.mp hx with hx | hx
    · exact (s.sub x hx).snoc
    · rw [List.mem_singleton.mp hx]; exact new
  · obtain ⟨e, he, z⟩ := hx
    rcases List.mem_append.mp he with he | he
    · exact (s.done x ⟨e, he, z⟩ (fun w hw => h1 w (List.mem_append_left _ hw)) (fun z hz => by cases hz; exact h2 (u.1, fun x => p x ∨ x = v.1) rfl) y hy).snoc
    · rw [List.mem_singleton.mp he] at z
      exact (h1 v (List.mem_append_right _ (List.mem_singleton.mpr rfl)) z).elim
  · cases hz
    obtain ⟨a, b⟩ := s.part _ rfl
    refine ⟨a.snoc, fun x hx hc => ?_⟩
    rcases hx with hx | rfl
    · exact (b x hx hc).snoc
    · exact new
/-- the way back -/
structure Back (R : PR) (kB kE : Sp) (ah : List AE) (n : Nat) (path : List (Sp × Addr)) : Prop where
  ex : ∃ pre e post b tail, ah = pre ++ e :: post ∧ Tree R kB (pre ++ [e]) ∧ path = (e.1, b) :: tail ∧ pre.length = n ∧ ∀ x ∈ tail, ¬ Has (pre ++ [e]) x.1
  ch : ChR R (path.map (·.1))
  ls : (path.map (·.1)).getLast? = some kE
  nd : (path.map (·.1)).Nodup
theorem Back.step {ah : List AE} (t : Tree R kB ah) {n : Nat} {x : Sp × Addr} {tail : List (Sp × Addr)} (h : Back R kB kE ah n (x :: tail)) : (lookN (aN ah) x.1 = some .non ∧ x.1 = kB) ∨ ∃ p : Sp × Addr, lookN (aN ah) x.1 = some (.ref p.2) ∧ (∃ e ∈ ah, e.2.2 = some p) ∧ ∃ m, m < n ∧ Back R kB kE ah m (p :: x :: tail) := by
  obtain ⟨pre, e, post, b, tl, h1, h2, h3, h4, h5⟩ := h.ex
  have he : e ∈ ah := by rw [h1]; simp
  obtain ⟨rfl, rfl⟩ := List.cons.inj h3
  have hl := t.look he
  rcases h2.last rfl with ⟨rfl, e1, e2⟩ | ⟨p, e1, e2, e3, e4, e5⟩
  · refine .inl ⟨?_, e1⟩
    rw [hl]; unfold aV; rw [e2]
  · refine .inr ⟨p, ?_, ⟨e, he, e1⟩, ?_⟩
    · rw [hl]; unfold aV; rw [e1]
    · obtain ⟨e', he', hk⟩ := e3
      obtain ⟨pre', post', rfl, t'⟩ := e2.split he'
      have n1 : ∀ y ∈ (e.1, b) :: tail, ¬ Has (pre' ++ [e']) y.1 := fun y hy hh => by
        obtain ⟨z, hz, zk⟩ := hh
        have hz' : z ∈ pre' ++ e' :: post' := by
          rcases List.mem_append.mp hz with hz | hz
          · exact List.mem_append_left _ hz
          · rw [List.mem_singleton.mp hz]; simp
        rcases List.mem_cons.mp hy with hy | hy
        · rw [hy] at zk; exact e5 ⟨z, hz', zk⟩
        · exact h5 y hy ⟨z, List.mem_append_left _ hz', zk⟩
      refine ⟨pre'.length, by rw [← h4, List.length_append, List.length_cons]; omega, ⟨pre', e', post' ++ e :: post, p.2, (e.1, b) :: tail, by rw [h1]; simp, t', by rw [hk], rfl, n1⟩, ⟨e4, h.ch⟩, ?_, ?_⟩
      · have := h.ls
        rw [List.map_cons, List.map_cons, List.getLast?_cons_cons]
        exact this
      · rw [List.map_cons, List.nodup_cons]
        refine ⟨fun hm => ?_, h.nd⟩
        obtain ⟨y, hy, yk⟩ := List.mem_map.mp hm
        exact n1 y hy ⟨e', by simp, hk.trans yk.symm⟩
theorem Back.way {ah : List AE} {n : Nat} {x : Sp × Addr} {tail : List (Sp × Addr)} (h : Back R kB kE ah n (x :: tail)) (hB : x.1 = kB) : IsWay R kB kE ((x :: tail).map (·.1)) :=
  ⟨by rw [← hB]; rfl, h.ls, h.ch, h.nd⟩
theorem Back.len {ah : List AE} {n : Nat} {path : List (Sp × Addr)} (h : Back R kB kE ah n path) : path ≠ [] := by
  obtain ⟨_, _, _, _, _, _, _, h, _⟩ := h.ex
  rw [h]; simp
end
end Fb
end

section
set_option Elab.async false
set_option linter.all false
set_option maxRecDepth 100000
set_option maxHeartbeats 4000000
/-! Nets: way_in, told and proved. -/
namespace Fb
open PySem PySem.Spec PyProof.Rows L2
/-- what stood stands -/
def GrowH (H H' : Hp) : Prop := ∀ b u, H b = some u → H' b = some u
/-- what stood still stands, some dicts read only -/
def Vw (H H' : Hp) : Prop := ∀ b u, H b = some u → H' b = some u ∨ ∃ φ o, u = .ext φ ∧ H' b = some (.frz o u)
theorem Vw.refl (H : Hp) : Vw H H := fun _ _ h => .inl h
theorem Vw.key {K : PySem.W.Frag} {H H' : Hp} (h : Vw H H') {b : Addr} {k : Sp} (q : KeyAt K H b k) : KeyAt K H' b k := by
  rcases q with q | ⟨ob, q⟩ | q
  · rcases h _ _ q with e | ⟨φ, o, e, _⟩
    · exact .inl e
    · cases e
  · rcases h _ _ q with e | ⟨φ, o, e, _⟩
    · exact .inr (.inl ⟨ob, e⟩)
    · cases e
  · exact .inr (.inr q)
theorem Vw.new {H H' : Hp} (h : Vw H H') {p : Addr} {o : HO} (e : H p = none) : Vw H (upd H' p o) := fun b u q => by
  rw [upd_ne (ne_of_none q e)]; exact h b u q
theorem Vw.frz {H H' : Hp} (h : Vw H H') {p : Addr} {φ : Heap → Prop} {o : Obj} (e : H p = some (.ext φ)) : Vw H (upd H' p (.frz o (.ext φ))) := fun b u q => by
  by_cases c : b = p
  · subst c
    rw [e] at q; cases q
    exact .inr ⟨φ, o, rfl, upd_same⟩
  · rw [upd_ne c]; exact h b u q
theorem Vw.netAt {X : Cx} {H H' : Hp} (h : Vw H H') {a : Addr} {es : List NE} (e : H a = some (NetO X.prog X.w a es)) (k : ∀ x ∈ es, KeyAt X.K H x.2.1 x.1) : NetAt X H' a es := by
  refine ⟨?_, fun x hx => h.key (k x hx)⟩
  rcases h _ _ e with e | ⟨φ, o, _, e⟩
  · exact .inl e
  · exact .inr ⟨o, e⟩
def rW (wt : List (Sp × Addr)) : List V := wt.map fun x => .ref x.2
def hpW (X : Cx) (H : Hp) (pa : Addr) (ah : List AE) (pw : Addr) (wt : List (Sp × Addr)) : Hp := upd (upd H pa (NetO X.prog X.w pa (aN ah))) pw (.lst (rW wt))
section
variable {X : Cx} {H : Hp} {pa pw : Addr} {ah ah' : List AE} {wt wt' : List (Sp × Addr)}
theorem hpW_vw {H0 : Hp} (v : Vw H0 H) (a : H0 pa = none) (b : H0 pw = none) : Vw H0 (hpW X H pa ah pw wt) := (v.new a).new b
end
structure SlW (σ : L2.St) (r pa pw : Addr) : Prop where
  s0 : σ[0]? = some (some (.ref r))
  s1 : σ[1]? = some (some (.ref pa))
  s2 : σ[2]? = some (some (.ref pw))
  len : 6 ≤ σ.length
theorem SlW.set {σ : L2.St} {r pa pw : Addr} (h : SlW σ r pa pw) {i : Nat} {v : Option V} (hi : 3 ≤ i) : SlW (σ.set i v) r pa pw :=
  ⟨by rw [List.getElem?_set_ne (by omega)]; exact h.s0, by rw [List.getElem?_set_ne (by omega)]; exact h.s1, by rw [List.getElem?_set_ne (by omega)]; exact h.s2, by rw [List.length_set]; exact h.len⟩
/-! ### what the text says -/
section
variable (X : Cx) (aB aE : Addr)
end
/-! ### the search -/
section
variable {X : Cx} {H0 H : Hp} {r pa pw aB aE : Addr} {rm : List RE} {kB kE : Sp}
structure Kn (K : PySem.W.Frag) (H : Hp) (ah : List AE) (wt : List (Sp × Addr)) : Prop where
  a : ∀ e ∈ ah, KeyAt K H e.2.1 e.1
  p : ∀ e ∈ ah, ∀ p, e.2.2 = some p → KeyAt K H p.2 p.1
  w : ∀ x ∈ wt, KeyAt K H x.2 x.1
theorem Kn.net {ah : List AE} {wt : List (Sp × Addr)} (k : Kn X.K H ah wt) : ∀ n ∈ aN ah, KeyAt X.K H n.2.1 n.1 := fun n hn => by
  obtain ⟨e, he, rfl⟩ := List.mem_map.mp hn
  exact k.a e he
/-- what the search keeps -/
structure Fix (X : Cx) (H0 H : Hp) (r : Addr) (rm : List RE) (pa pw : Addr) : Prop where
  room : RoomAt X.prog X.w X.K H0 H r rm
  fa : H pa = none
  fw : H pw = none
  ne : pa ≠ pw
theorem Fix.out (f : Fix X H0 H r rm pa pw) {H1 : Hp} {ah : List AE} {wt : List (Sp × Addr)} (v : Vw H H1) : NetAt X (hpW X H1 pa ah pw wt) r (outN rm) :=
  (hpW_vw v f.fa f.fw).netAt f.room.out fun x hx => by
    obtain ⟨e, he, rfl⟩ := List.mem_map.mp hx
    exact f.room.key e he
theorem entry {rm : List RE} {k : Sp} (h : (getR (plainR rm) k).isSome = true) : ∃ e ∈ rm, e.1 = k ∧ getR (plainR rm) k = some (innP e.2.2.2) ∧ lookN (outN rm) k = some (.ref e.2.2.1) := by
  rw [getR_plain] at h ⊢
  rw [outN_look]
  cases c : rm.find? fun e => decide (e.1 = k) with
  | none => rw [c] at h; cases h
  | some e => exact ⟨e, List.mem_of_find?_eq_some c, by simpa using List.find?_some c, rfl, rfl⟩
end
end Fb
end

section
set_option Elab.async false
set_option linter.all false
set_option maxRecDepth 100000
set_option maxHeartbeats 4000000
/-! Nets beside data: suites that tie a net. -/
namespace Fb
open PySem PySem.Spec PyProof.Rows L2
section
variable {P : Program} {w : World} {a : Addr} {es : List NE}
theorem netO_ext {φ : Heap → Prop} (its : List Value) (n : Nat) (h : ∀ h : Heap, h.get? a = some { cls := .type "list", data := .seq its.toArray n } → φ h) : HO.ext φ ≠ NetO P w a es := fun z => by
  unfold NetO at z
  injection z with z
  obtain ⟨h0, e⟩ := heap_at a its n
  have c : NetP P w a es h0 := by rw [← z]; exact h h0 e
  obtain ⟨_, _, xs, _, o, dd, ep, h1, _, h2, _⟩ := c
  rw [e] at h1
  cases h1
  cases h2
theorem netO_A {b : Addr} : HO.ext (boxA a b) ≠ NetO P w a es := netO_ext [.ref b, .int 0 default] 0 fun h e => ⟨0, _, _, .cons rfl (.cons ⟨_, rfl⟩ .nil), e⟩
theorem netO_B : HO.ext (boxB a) ≠ NetO P w a es := netO_ext [] 0 fun h e => ⟨[], _, _, Nat.zero_le _, .nil, e⟩
theorem netO_C : HO.ext (boxC a) ≠ NetO P w a es := netO_ext [.int 0 default, .int 0 default] 0 fun h e => ⟨0, 0, _, _, .cons ⟨_, rfl⟩ (.cons ⟨_, rfl⟩ .nil), e⟩
theorem netO_E {cls : Value} {dd : Option Addr} : HO.ext (excAt cls dd a) ≠ NetO P w a es := fun z => by
  unfold NetO at z
  injection z with z
  obtain ⟨h0, e⟩ := heap_atO a cls dd
  have c : NetP P w a es h0 := by rw [← z]; exact ⟨_, _, e, ⟨rfl, rfl⟩, rfl⟩
  obtain ⟨_, _, xs, _, o, dd, ep, h1, _, h2, _⟩ := c
  rw [e] at h1
  cases h1
  cases h2
theorem frz_net {o : Obj} {u : HO} : HO.frz o u ≠ NetO P w a es := fun z => by unfold NetO at z; cases z
theorem tup_net {xs : List V} : HO.tup xs ≠ NetO P w a es := fun z => by unfold NetO at z; cases z
theorem lst_net {xs : List V} : HO.lst xs ≠ NetO P w a es := fun z => by unfold NetO at z; cases z
theorem dK_net {ks : List (Key × V)} : HO.dK ks ≠ NetO P w a es := fun z => by unfold NetO at z; cases z
theorem ins_net {C dx : Addr} {gs : List (Str × V)} : HO.ins C dx gs ≠ NetO P w a es := fun z => by unfold NetO at z; cases z
theorem xd_net {gs : List (Str × V)} : HO.xd gs ≠ NetO P w a es := fun z => by unfold NetO at z; cases z
end
section
variable {P : Program} {w : World} {G : Wd} {N : Addr → Prop} {H H' : Hp}
theorem KeepX.tupT (h : KeepX P w H H') {K : PySem.W.Frag} {a : Addr} {xs : List V} (r : TupAt K H a xs) : TupAt K H' a xs :=
  r.elim (fun e => .inl (h a _ e fun _ => tup_net)) fun z => z.elim (fun ⟨o, e⟩ => .inr (.inl ⟨o, h a _ e fun _ => frz_net⟩)) fun z => .inr (.inr z)
theorem KeepX.rd (h : KeepX P w H H') {a : Addr} {ks : List (Key × V)} (r : Rd H a (.dK ks)) : Rd H' a (.dK ks) :=
  r.elim (fun e => .inl (h a _ e fun _ => dK_net)) fun ⟨o, e⟩ => .inr ⟨o, h a _ e fun _ => frz_net⟩
theorem KeepX.scr (h : KeepX P w H H') {K : PySem.W.Frag} {a : Addr} {ns : List Int} (r : ScrAt K H a ns) : ScrAt K H' a ns := r.elim (fun ⟨o, e⟩ => .inl ⟨o, h a _ e fun _ => frz_net⟩) .inr
theorem KeepX.pairs (h : KeepX P w H H') : ∀ {ts : List Addr} {ws : List (Str × Int)}, PairsAt H ts ws → PairsAt H' ts ws
  | [], [], _ => trivial
  | _ :: _, _ :: _, x => ⟨x.1.elim fun k1 e => ⟨k1, e.elim fun k2 e => ⟨k2, e.elim fun n e => ⟨n, h _ _ e fun _ => frz_net⟩⟩⟩, KeepX.pairs h x.2⟩
  | [], _ :: _, x => x.elim
  | _ :: _, [], x => x.elim
theorem KeepX.box (h : KeepX P w H H') {n : Bx} {a : Addr} (x : BoxAt H n a) : BoxAt H' n a := by
  cases n with
  | exc x' dd fs => exact ⟨x.1, fun d e => h _ _ (x.2 d e) fun _ => xd_net⟩
  | wld ws =>
    obtain ⟨ts, ⟨n, h1⟩, h2⟩ := x
    exact ⟨ts, ⟨n, h _ _ h1 fun _ => frz_net⟩, h.pairs h2⟩
  | nat n =>
    unfold BoxAt at x ⊢
    dsimp only at x ⊢
    by_cases e : n = 0
    · rw [if_pos e] at x ⊢
      obtain ⟨b, ne, h1, h2⟩ := x
      exact ⟨b, ne, h _ _ h1 fun _ => netO_A, h _ _ h2 fun _ => netO_B⟩
    · rw [if_neg e] at x ⊢
      exact h _ _ x fun _ => netO_C
mutual
theorem Rep.keepX (h : KeepX P w H H') : ∀ {d : D} {v : V}, Rep G N H d v → Rep G N H' d v
  | .non, _, h => h
  | .bl _, _, h => h
  | .int _, _, h => h
  | .str _, _, h => h
  | .tup ds, _, ⟨a, vs, e, q, r⟩ => ⟨a, vs, e, h.tupT q, Reps.keepX h r⟩
  | .lst ds, _, ⟨a, vs, e, n, q, r⟩ => ⟨a, vs, e, n, h _ _ q fun _ => lst_net, Reps.keepX h r⟩
  | .dic kvs, _, ⟨a, ks, e, n, q, r⟩ => ⟨a, ks, e, n, h.rd q, RepK.keepX h r⟩
  | .ins c fs, _, ⟨a, C, dx, gs, e, m, q, r, t⟩ => ⟨a, C, dx, gs, e, m, h _ _ q fun _ => ins_net, RepF.keepX h r, t⟩
  | .obj x c fs, _, ⟨e, n, C, dx, gs, m, q, r, t⟩ => ⟨e, n, C, dx, gs, m, h _ _ q fun _ => ins_net, RepF.keepX h r, t⟩
  | .stk _ _ _ _, _, h => h
  | .box n, _, ⟨a, e, q⟩ => ⟨a, e, h.box q⟩
  | .exn x dd fs, _, ⟨e, q⟩ => ⟨e, fun d ed => (q d ed).elim fun gs z => ⟨gs, h _ _ z.1 fun _ => xd_net, RepF.keepX h z.2⟩⟩
  | .erv x c dd fs, _, ⟨e, ⟨C, m, q1⟩, q⟩ => ⟨e, ⟨C, m, h _ _ q1 fun _ => netO_E⟩, fun d ed => (q d ed).elim fun gs z => ⟨gs, h _ _ z.1 fun _ => xd_net, RepF.keepX h z.2⟩⟩
  | .cel x ds, _, ⟨e, n, vs, q, r⟩ => ⟨e, n, vs, h _ _ q fun _ => lst_net, Reps.keepX h r⟩
  | .ty _, _, h => h
  | .cls _, _, h => h
  | .raw _, _, h => h
  | .scr _, _, ⟨a, e, q⟩ => ⟨a, e, h.scr q⟩
  | .clo k _, _, ⟨e, q, r⟩ => ⟨e, h _ _ q fun es z => (netO_no (P := P) (w := w) (a := k.c) (es := es)).2 k.q z.symm, Reps.keepX h r⟩
theorem Reps.keepX (h : KeepX P w H H') : ∀ {ds : List D} {vs : List V}, Reps G N H ds vs → Reps G N H' ds vs
  | [], _, h => h
  | _ :: _, _, ⟨w, ws, e, r, rs⟩ => ⟨w, ws, e, Rep.keepX h r, Reps.keepX h rs⟩
theorem RepK.keepX (h : KeepX P w H H') : ∀ {ds : List (Key × D)} {vs : List (Key × V)}, RepK G N H ds vs → RepK G N H' ds vs
  | [], _, h => h
  | (_, _) :: _, _, ⟨w, ws, e, r, rs⟩ => ⟨w, ws, e, Rep.keepX h r, RepK.keepX h rs⟩
theorem RepF.keepX (h : KeepX P w H H') : ∀ {ds : List (Str × D)} {vs : List (Str × V)}, RepF G N H ds vs → RepF G N H' ds vs
  | [], _, h => h
  | (_, _) :: _, _, ⟨w, ws, e, r, rs⟩ => ⟨w, ws, e, Rep.keepX h r, RepF.keepX h rs⟩
end
end
/-! ### suites -/
/-- the slots' data and the net at slot rs -/
structure NInv (G : Wd) (P : Program) (w : World) (K : PySem.W.Frag) (n rs : Nat) (H0 : Hp) (r : Addr) (σ : L2.St) (H : Hp) (ρ : Ro) (R : PR) : Prop where
  rel : ERel G NT H σ ρ
  room : ∃ rm, RoomAt P w K H0 H r rm ∧ plainR rm = R
  tab : TabsG G H0 → TabsG G H
  slot : σ[rs]? = some (some (.ref r))
  len : σ.length = n
/-- what neither new things nor the nets' changes spoil -/
structure StayN (G : Wd) (P : Program) (w : World) (B : Hp → Prop) : Prop where
  same : ∀ H H', B H → Same G H H' → B H'
  keep : ∀ H H', B H → KeepX P w H H' → B H'
section
variable {G : Wd} {P : Program} {w : World} {K : PySem.W.Frag} {n rs : Nat} {H0 H H' : Hp} {r : Addr} {σ : L2.St} {ρ : Ro} {R R' : PR}
theorem ERel.top {N : Addr → Prop} (h : ERel G N H σ ρ) : ERel G NT H σ ρ := ⟨h.tab, fun i d e => let ⟨v, e', r⟩ := h.get i d e; ⟨v, e', r.top⟩⟩
theorem NInv.same (x : NInv G P w K n rs H0 r σ H ρ R) (s : Same G H H') : NInv G P w K n rs H0 r σ H' ρ R := by
  obtain ⟨rm, h1, h2⟩ := x.room
  exact ⟨x.rel.same s, ⟨rm, h1.grown s.ext (fun b o e nt => s.ext b o (h1.grow b o e nt) nt) s.fre, h2⟩, fun t => s.tab (x.tab t), x.slot, x.len⟩
theorem NInv.moved (x : NInv G P w K n rs H0 r σ H ρ R) {rm' : List RE} (m : Moved P w K H0 H r R' H' rm') : NInv G P w K n rs H0 r σ H' ρ R' :=
  ⟨⟨m.tab G x.rel.tab, fun i d e => let ⟨v, e', r⟩ := x.rel.get i d e; ⟨v, e', r.keepX m.keep⟩⟩, ⟨rm', m.at_, m.pl⟩, fun t => m.tab G (x.tab t), x.slot, x.len⟩
end
abbrev NM := Ro → PR → W Ex PR
def tN (G : Wd) (X : Cx) (n rs : Nat) (m : NM) : TS := fun D σ H => ∃ H0 r ρ R B, StayN G X.prog X.w B ∧ B H ∧ NInv G X.prog X.w X.K n rs H0 r σ H ρ R ∧
  m ρ R (fun R' => ∀ σ' H', B H' → NInv G X.prog X.w X.K n rs H0 r σ' H' ρ R' → D.nx σ' H') (fun _ => False)
structure NS (G : Wd) (X : Cx) (n rs : Nat) (st : Stmt) (m : NM) : Prop where
  ps : PS X st (tN G X n rs m)
  mono : ∀ ρ R, W.Mono (m ρ R)
structure NSs (G : Wd) (X : Cx) (n rs : Nat) (sts : List Stmt) (m : NM) : Prop where
  ps : PSs X sts (tN G X n rs m)
  mono : ∀ ρ R, W.Mono (m ρ R)
def tK (G : Wd) (X : Cx) (mk : Ro → W Ex Sp) : TE := fun σ H Q => ∃ ρ, ERel G NT H σ ρ ∧ mk ρ (fun k => ∀ b H', Same G H H' → KeyAt X.K H' b k → Q (.ref b) H') (fun _ => False)
structure NK (G : Wd) (X : Cx) (e : Expr) (mk : Ro → W Ex Sp) : Prop where
  pe : PE X e (tK G X mk)
  mono : ∀ ρ, W.Mono (mk ρ)
/-- a tuple of the module's level -/
structure KG (G : Wd) (x : Str) (k : Sp) : Prop where
  ex : ∃ b, G.mg x = some (.ref b) ∧ ∀ H, KeyAt G.K H b k
def smallB (R : PR) : Bool := decide (R.length < 900) && R.all fun e => decide (e.2.length < 900)
section
variable {P : Program} {w : World} {G : Wd} {base : Heap} {k j : Nat} {X : Cx} {Wx : WX} {n rs : Nat}
end
end Fb
end

section
set_option Elab.async false
set_option linter.all false
set_option maxRecDepth 100000
set_option maxHeartbeats 4000000
/-! Nets: cuts and what a way through takes of them, plain. -/
namespace Fb
open PySem PySem.Spec PyProof.Rows L2
def insum (S : Sp → Bool) : PI1 → Int
  | [] => 0
  | i :: l => (if S i.1 = true then 0 else i.2) + insum S l
/-- what leads out of S -/
def cutR (S : Sp → Bool) : PR → Int
  | [] => 0
  | e :: R => (if S e.1 = true then insum S e.2 else 0) + cutR S R
structure GoodR (kB kE : Sp) (R : PR) : Prop where
  kd : (R.map (·.1)).Nodup
  ikd : ∀ e ∈ R, (e.2.map (·.1)).Nodup
  sym : ∀ u v c, cR R u v = some c → ∃ c', cR R v u = some c'
  pos : ∀ u v c, cR R u v = some c → 0 ≤ c
  beg : (getR R kB).isSome = true
  ne : kB ≠ kE
  len : R.length < 900
  ilen : ∀ e ∈ R, e.2.length < 900
theorem getR_cons (e : Sp × PI1) (R : PR) (k : Sp) : getR (e :: R) k = if e.1 = k then some e.2 else getR R k := by
  unfold getR
  rw [List.find?_cons]
  by_cases h : e.1 = k
  · simp [h]
  · simp [h]
theorem getI_cons (e : Sp × Int) (l : PI1) (k : Sp) : getI (e :: l) k = if e.1 = k then some e.2 else getI l k := by
  unfold getI
  rw [List.find?_cons]
  by_cases h : e.1 = k
  · simp [h]
  · simp [h]
theorem getI_of : ∀ {l : PI1} {e : Sp × Int}, (l.map (·.1)).Nodup → e ∈ l → getI l e.1 = some e.2
  | [], _, _, h => nomatch h
  | a :: l, e, nd, h => by
    rw [List.map_cons, List.nodup_cons] at nd
    rw [getI_cons]
    rcases List.mem_cons.mp h with rfl | h
    · rw [if_pos rfl]
    · rw [if_neg fun z => nd.1 (List.mem_map.mpr ⟨e, h, z.symm⟩)]
      exact getI_of nd.2 h
/-! ### one entry changed -/
theorem putI_keys {l : PI1} {k : Sp} {v : Int} (h : (getI l k).isSome = true) : (putI l k v).map (·.1) = l.map (·.1) := by
  unfold putI
  rw [if_pos h, List.map_map]
  refine List.map_congr_left fun e _ => ?_
  show (if e.1 = k then (e.1, v) else e).1 = e.1
  split <;> rfl
theorem putI_get {l : PI1} {k x : Sp} {v : Int} (h : (getI l k).isSome = true) : getI (putI l k v) x = if x = k then some v else getI l x := by
  have key : ∀ l : PI1, (getI l k).isSome = true ∨ x ≠ k → getI (l.map fun e => if e.1 = k then (e.1, v) else e) x = if x = k then some v else getI l x := by
    intro l
    induction l with
    | nil => intro h; rcases h with h | h
             · cases h
             · rw [if_neg h]; rfl
    | cons e l ih =>
      intro h
      rw [List.map_cons, getI_cons, getI_cons]
      by_cases c : e.1 = k
      · rw [if_pos c]
        by_cases d : x = k
        · rw [if_pos d, if_pos (c.trans d.symm)]
        · rw [if_neg d, if_neg (fun z => d (z.symm.trans c)), if_neg (fun z => d (z.symm.trans c))]
          have := ih (.inr d)
          rw [if_neg d] at this; exact this
      · rw [if_neg c]
        by_cases d : e.1 = x
        · rw [if_pos d, if_pos d, if_neg (fun z => c (d.trans z))]
        · rw [if_neg d, if_neg d]
          refine ih ?_
          rcases h with h | h
          · rw [getI_cons, if_neg c] at h; exact .inl h
          · exact .inr h
  unfold putI
  rw [if_pos h]
  exact key l (.inl h)
theorem modR_keys {k : Sp} {f : PI1 → PI1} (R : PR) : (modR k f R).map (·.1) = R.map (·.1) := by
  unfold modR
  rw [List.map_map]
  refine List.map_congr_left fun e _ => ?_
  show (if e.1 = k then (e.1, f e.2) else e).1 = e.1
  split <;> rfl
theorem getR_mod {k x : Sp} {f : PI1 → PI1} : ∀ R : PR, getR (modR k f R) x = (getR R x).map fun l => if x = k then f l else l
  | [] => rfl
  | e :: R => by
    unfold modR
    rw [List.map_cons, getR_cons, getR_cons]
    by_cases c : e.1 = k
    · rw [if_pos c]
      by_cases d : e.1 = x
      · rw [if_pos d, if_pos d]
        show some (f e.2) = some (if x = k then f e.2 else e.2)
        rw [if_pos (d.symm.trans c)]
      · rw [if_neg d, if_neg d]
        exact getR_mod R
    · rw [if_neg c]
      by_cases d : e.1 = x
      · rw [if_pos d, if_pos d]
        show some e.2 = some (if x = k then f e.2 else e.2)
        rw [if_neg (fun z => c (d.trans z))]
      · rw [if_neg d, if_neg d]
        exact getR_mod R
section
variable {kB kE : Sp} {R : PR} {u v : Sp} {c c0 : Int}
end
/-! ### a way taken -/
section
variable {kB kE : Sp} {R : PR} {u v : Sp}
end
/-! ### least cuts -/
structure IsMin (kB kE : Sp) (R : PR) (m : Int) : Prop where
  le : ∀ S : Sp → Bool, S kB = true → S kE = false → m ≤ cutR S R
  eq : ∃ S : Sp → Bool, S kB = true ∧ S kE = false ∧ cutR S R = m
end Fb
end

section
set_option Elab.async false
set_option linter.all false
set_option maxRecDepth 100000
set_option maxHeartbeats 4000000
/-! Nets: the ways taken one by one, at the heap. -/
namespace Fb
open PySem PySem.Spec PyProof.Rows L2
section
variable {X : Cx} {Hs H : Hp} {r : Addr} {rm : List RE} {σ : L2.St}
end
/-! ### all ways -/
structure SlF (n i5 i6 i7 i8 i9 : Nat) : Prop where
  h5 : i5 < n
  h6 : i6 < n
  h7 : i7 < n
  h8 : i8 < n
  h9 : i9 < n
  d : [i5, i6, i7, i8, i9].Nodup
section
variable {G : Wd} {X : Cx} {Hs H : Hp} {r : Addr} {rm : List RE} {kB kE : Sp} {n i5 i6 i7 i8 i9 : Nat}
/-- what the ways' loop knows -/
structure FInv (G : Wd) (X : Cx) (kB kE : Sp) (n i5 : Nat) (Hs : Hp) (r : Addr) (σ : L2.St) (H : Hp) (R : PR) : Prop where
  room : ∃ rm, RoomAt X.prog X.w X.K Hs H r rm ∧ plainR rm = R
  tab : TabsG G Hs → TabsG G H
  slot : σ[i5]? = some (some (.ref r))
  len : σ.length = n
  good : GoodR kB kE R
end
end Fb
end

section
set_option Elab.async false
set_option linter.all false
set_option maxRecDepth 100000
set_option maxHeartbeats 4000000
/-! Nets: all ways, one after another. -/
namespace Fb
open PySem PySem.Spec PyProof.Rows L2
section
variable {G : Wd} {X : Cx} {Hs H : Hp} {r : Addr} {kB kE : Sp} {n i5 i6 i7 i8 i9 : Nat}
theorem FInv.slots {σ σ' : L2.St} {R : PR} (f : FInv G X kB kE n i5 Hs r σ H R) (h : σ'[i5]? = σ[i5]?) (hl : σ'.length = σ.length) : FInv G X kB kE n i5 Hs r σ' H R := ⟨f.room, f.tab, h.trans f.slot, hl.trans f.len, f.good⟩
theorem FInv.grow {σ : L2.St} {H' : Hp} {R : PR} (f : FInv G X kB kE n i5 Hs r σ H R) (g : GrowH H H') (t : TabsG G H → TabsG G H') : FInv G X kB kE n i5 Hs r σ H' R := by
  obtain ⟨rm, m1, m2⟩ := f.room
  exact ⟨⟨rm, m1.grown (fun b o e _ => g b o e) (fun b o e nt => g b o (m1.grow b o e nt)) (fun b e => by
    cases h : H b with
    | none => rfl
    | some u => rw [g b u h] at e; cases e), m2⟩, fun h => t (f.tab h), f.slot, f.len, f.good⟩
end
end Fb
end

section
set_option Elab.async false
set_option linter.all false
set_option maxRecDepth 100000
set_option maxHeartbeats 4000000
/-! Nets: the defs, as the printed proofs use them. -/
namespace Fb
open PySem PySem.Spec PyProof.Rows L2
/-! ### net_of -/
def tRoom (X : Cx) (rs : Nat) (aB aE : Addr) : TS := tAsg (tNDisp X [(tC (.ref aB), tNNew X), (tC (.ref aE), tNNew X)]) (gName rs)
section
variable {P : Program} {w : World} {G : Wd} {base : Heap} {k j : Nat} {X : Cx} {Wx : WX} {kB kE : Sp} {aB aE : Addr} {rs : Nat}
end
structure NetB (G : Wd) (X : Cx) (Wx : WX) (sts : List Stmt) (n rs : Nat) (aB aE : Addr) (m1 : En → WS) (mf : NM) : Prop where
  ps : PSs X sts (tSeq (tS G Wx m1) (tSeq (tRoom X rs aB aE) (tSeq (tN G X n rs mf) (tRet (tVar rs)))))
  m1 : ∀ ρ, W.Mono (m1 ρ)
  mf : ∀ ρ R, W.Mono (mf ρ R)
/-! ### ways_apart's end -/
end Fb
end

section
set_option Elab.async false
set_option linter.all false
set_option maxRecDepth 100000
set_option maxHeartbeats 4000000
/-! Nets: what ties make, plain. -/
namespace Fb
open PySem PySem.Spec PyProof.Rows L2
theorem getI_app (l : PI1) (k x : Sp) (v : Int) : getI (l ++ [(k, v)]) x = match getI l x with
  | some c => some c
  | none => if k = x then some v else none := by
  induction l with
  | nil => rw [List.nil_append, getI_cons]; rfl
  | cons e l ih =>
    rw [List.cons_append, getI_cons, getI_cons, ih]
    by_cases h : e.1 = x
    · rw [if_pos h, if_pos h]
    · rw [if_neg h, if_neg h]
theorem getI_put (l : PI1) (k x : Sp) (v : Int) : getI (putI l k v) x = if x = k then some v else getI l x := by
  by_cases h : (getI l k).isSome = true
  · exact putI_get h
  · unfold putI
    rw [if_neg h, getI_app]
    by_cases c : x = k
    · subst c
      rw [if_pos rfl]
      cases e : getI l x with
      | some _ => rw [e] at h; exact (h rfl).elim
      | none => simp
    · rw [if_neg c]
      cases getI l x with
      | some _ => rfl
      | none => simp [Ne.symm c]
theorem getI_def (l : PI1) (k x : Sp) (v : Int) : getI (defI l k v) x = if x = k then some ((getI l k).getD v) else getI l x := by
  unfold defI
  by_cases h : (getI l k).isSome = true
  · rw [if_pos h]
    by_cases c : x = k
    · subst c
      rw [if_pos rfl]
      cases e : getI l x with
      | some _ => rfl
      | none => rw [e] at h; cases h
    · rw [if_neg c]
  · rw [if_neg h, getI_app]
    by_cases c : x = k
    · subst c
      rw [if_pos rfl]
      cases e : getI l x with
      | some _ => rw [e] at h; exact (h rfl).elim
      | none => simp
    · rw [if_neg c]
      cases getI l x with
      | some _ => rfl
      | none => simp [Ne.symm c]
theorem getR_app (R : PR) (k x : Sp) (l : PI1) : getR (R ++ [(k, l)]) x = match getR R x with
  | some c => some c
  | none => if k = x then some l else none := by
  induction R with
  | nil => rw [List.nil_append, getR_cons]; rfl
  | cons e R ih =>
    rw [List.cons_append, getR_cons, getR_cons, ih]
    by_cases h : e.1 = x
    · rw [if_pos h, if_pos h]
    · rw [if_neg h, if_neg h]
theorem getR_set (R : PR) (k x : Sp) : getR (setdR R k) x = if x = k then some ((getR R k).getD []) else getR R x := by
  unfold setdR
  by_cases h : (getR R k).isSome = true
  · rw [if_pos h]
    by_cases c : x = k
    · subst c
      rw [if_pos rfl]
      cases e : getR R x with
      | some _ => rfl
      | none => rw [e] at h; cases h
    · rw [if_neg c]
  · rw [if_neg h, getR_app]
    by_cases c : x = k
    · subst c
      rw [if_pos rfl]
      cases e : getR R x with
      | some _ => rw [e] at h; exact (h rfl).elim
      | none => simp
    · rw [if_neg c]
      cases getR R x with
      | some _ => rfl
      | none => simp [Ne.symm c]
theorem cR_set (R : PR) (k x y : Sp) : cR (setdR R k) x y = cR R x y := by
  unfold cR
  rw [getR_set]
  by_cases c : x = k
  · subst c
    rw [if_pos rfl]
    cases getR R x <;> rfl
  · rw [if_neg c]
theorem cR_put {R : PR} {a : Sp} (h : (getR R a).isSome = true) (b x y : Sp) (v : Int) : cR (modR a (fun l => putI l b v) R) x y = if x = a ∧ y = b then some v else cR R x y := by
  unfold cR
  rw [getR_mod]
  by_cases c : x = a
  · subst c
    cases e : getR R x with
    | none => rw [e] at h; cases h
    | some l =>
      show getI (if x = x then putI l b v else l) y = _
      rw [if_pos rfl, getI_put]
      by_cases d : y = b
      · rw [if_pos d, if_pos ⟨rfl, d⟩]
      · rw [if_neg d, if_neg fun z => d z.2]; rfl
  · rw [if_neg fun z => c z.1]
    cases getR R x with
    | none => rfl
    | some l =>
      show getI (if x = a then putI l b v else l) y = getI l y
      rw [if_neg c]
theorem cR_def {R : PR} {a : Sp} (h : (getR R a).isSome = true) (b x y : Sp) (v : Int) : cR (modR a (fun l => defI l b v) R) x y = if x = a ∧ y = b then some ((cR R a b).getD v) else cR R x y := by
  unfold cR
  rw [getR_mod]
  by_cases c : x = a
  · subst c
    cases e : getR R x with
    | none => rw [e] at h; cases h
    | some l =>
      show getI (if x = x then defI l b v else l) y = _
      rw [if_pos rfl, getI_def]
      by_cases d : y = b
      · rw [if_pos d, if_pos ⟨rfl, d⟩]; rfl
      · rw [if_neg d, if_neg fun z => d z.2]; rfl
  · rw [if_neg fun z => c z.1]
    cases getR R x with
    | none => rfl
    | some l =>
      show getI (if x = a then defI l b v else l) y = getI l y
      rw [if_neg c]
theorem cR_tie {R : PR} {a b : Sp} (ne : a ≠ b) (x y : Sp) : cR (tieR R a b) x y = if x = a ∧ y = b then some 1 else if x = b ∧ y = a then some ((cR R b a).getD 0) else cR R x y := by
  unfold tieR
  rw [cR_def (getR_setd _ _), cR_set, cR_set, cR_put (getR_setd _ _), cR_put (getR_setd _ _), cR_set, cR_set]
  by_cases c : x = a ∧ y = b
  · rw [if_pos c, if_neg fun z => ne (c.1.symm.trans z.1), if_pos c]
  · rw [if_neg c, if_neg c]
    by_cases d : x = b ∧ y = a
    · rw [if_pos d, if_pos d, if_neg fun z => ne z.1.symm]
    · rw [if_neg d, if_neg d]
/-! ### what a net under way keeps -/
structure NetOk (U : List Sp) (kB : Sp) (R : PR) : Prop where
  kd : (R.map (·.1)).Nodup
  ikd : ∀ e ∈ R, (e.2.map (·.1)).Nodup
  ku : ∀ e ∈ R, e.1 ∈ U
  iku : ∀ e ∈ R, ∀ i ∈ e.2, i.1 ∈ U
  sym : ∀ u v c, cR R u v = some c → ∃ c', cR R v u = some c'
  pos : ∀ u v c, cR R u v = some c → 0 ≤ c ∧ c ≤ 1
  beg : (getR R kB).isSome = true
section
variable {U : List Sp} {kB : Sp} {R : PR} {a b : Sp}
theorem get_in {k : Sp} (z : k ∈ R.map (·.1)) : (getR R k).isSome = true := by
  obtain ⟨e, he, rfl⟩ := List.mem_map.mp z
  unfold getR
  rw [Option.isSome_map]
  cases q : R.find? fun e' => decide (e'.1 = e.1) with
  | some _ => rfl
  | none => exact (by simpa using List.find?_eq_none.mp q e he : False).elim
theorem nodup_set (h : (R.map (·.1)).Nodup) (k : Sp) : ((setdR R k).map (·.1)).Nodup := by
  unfold setdR
  by_cases c : (getR R k).isSome = true
  · rw [if_pos c]; exact h
  · rw [if_neg c, List.map_append, List.nodup_append]
    refine ⟨h, by simp, fun x hx y hy z => ?_⟩
    have hy : y = k := by simpa using hy
    rw [hy] at z
    exact c (get_in (z ▸ hx))
theorem mem_set {k : Sp} {e : Sp × PI1} (h : e ∈ setdR R k) : e ∈ R ∨ e = (k, []) := by
  unfold setdR at h
  split at h
  · exact .inl h
  · rcases List.mem_append.mp h with h | h
    · exact .inl h
    · exact .inr (List.mem_singleton.mp h)
theorem keys_putI {l : PI1} {k : Sp} {v : Int} (h : (l.map (·.1)).Nodup) : ((putI l k v).map (·.1)).Nodup ∧ ∀ i ∈ putI l k v, i.1 = k ∨ ∃ j ∈ l, j.1 = i.1 := by
  by_cases c : (getI l k).isSome = true
  · refine ⟨by rw [putI_keys c]; exact h, fun i hi => ?_⟩
    have : i.1 ∈ (putI l k v).map (·.1) := List.mem_map.mpr ⟨i, hi, rfl⟩
    rw [putI_keys c] at this
    obtain ⟨j, hj, e⟩ := List.mem_map.mp this
    exact .inr ⟨j, hj, e⟩
  · unfold putI
    rw [if_neg c]
    refine ⟨?_, fun i hi => ?_⟩
    · rw [List.map_append, List.nodup_append]
      refine ⟨h, by simp, fun x hx y hy z => ?_⟩
      obtain ⟨j, hj, rfl⟩ := List.mem_map.mp hx
      have hy : y = k := by simpa using hy
      refine c ?_
      rw [← hy, ← z, getI_of h hj]; rfl
    · rcases List.mem_append.mp hi with hi | hi
      · exact .inr ⟨i, hi, rfl⟩
      · exact .inl (by rw [List.mem_singleton.mp hi])
theorem keys_defI {l : PI1} {k : Sp} {v : Int} (h : (l.map (·.1)).Nodup) : ((defI l k v).map (·.1)).Nodup ∧ ∀ i ∈ defI l k v, i.1 = k ∨ ∃ j ∈ l, j.1 = i.1 := by
  by_cases c : (getI l k).isSome = true
  · unfold defI
    rw [if_pos c]
    exact ⟨h, fun i hi => .inr ⟨i, hi, rfl⟩⟩
  · have := keys_putI (l := l) (k := k) (v := v) h
    unfold putI at this
    rw [if_neg c] at this
    unfold defI
    rw [if_neg c]
    exact this
theorem mod_ok {k : Sp} {f : PI1 → PI1} (hf : ∀ l : PI1, (l.map (·.1)).Nodup → ((f l).map (·.1)).Nodup ∧ ∀ i ∈ f l, i.1 = a ∨ ∃ j ∈ l, j.1 = i.1) (ha : a ∈ U) (kd : (R.map (·.1)).Nodup) (ikd : ∀ e ∈ R, (e.2.map (·.1)).Nodup) (ku : ∀ e ∈ R, e.1 ∈ U) (iku : ∀ e ∈ R, ∀ i ∈ e.2, i.1 ∈ U) :
    ((modR k f R).map (·.1)).Nodup ∧ (∀ e ∈ modR k f R, (e.2.map (·.1)).Nodup) ∧ (∀ e ∈ modR k f R, e.1 ∈ U) ∧ ∀ e ∈ modR k f R, ∀ i ∈ e.2, i.1 ∈ U := by
  refine ⟨by rw [modR_keys]; exact kd, fun e he => ?_, fun e he => ?_, fun e he i hi => ?_⟩
  · obtain ⟨e0, h0, rfl⟩ := List.mem_map.mp he
    split
    · exact (hf _ (ikd e0 h0)).1
    · exact ikd e0 h0
  · obtain ⟨e0, h0, rfl⟩ := List.mem_map.mp he
    split <;> exact ku e0 h0
  · obtain ⟨e0, h0, rfl⟩ := List.mem_map.mp he
    split at hi
    · rcases (hf _ (ikd e0 h0)).2 i hi with z | ⟨j, hj, z⟩
      · rw [z]; exact ha
      · rw [← z]; exact iku e0 h0 j hj
    · exact iku e0 h0 i hi
theorem NetOk.tie (h : NetOk U kB R) (ha : a ∈ U) (hb : b ∈ U) (ne : a ≠ b) : NetOk U kB (tieR R a b) := by
  have s1 := nodup_set h.kd a
  have m1 : ∀ e ∈ setdR R a, (e.2.map (·.1)).Nodup ∧ e.1 ∈ U ∧ ∀ i ∈ e.2, i.1 ∈ U := fun e he => by
    rcases mem_set he with he | rfl
    · exact ⟨h.ikd e he, h.ku e he, h.iku e he⟩
    · exact ⟨by simp, ha, fun i hi => nomatch hi⟩
  obtain ⟨k2, i2, u2, v2⟩ := mod_ok (U := U) (a := b) (k := a) (f := fun l => putI l b 1) (fun l hl => keys_putI hl) hb s1 (fun e he => (m1 e he).1) (fun e he => (m1 e he).2.1) (fun e he => (m1 e he).2.2)
  have s3 := nodup_set k2 b
  have m3 : ∀ e ∈ setdR (modR a (fun l => putI l b 1) (setdR R a)) b, (e.2.map (·.1)).Nodup ∧ e.1 ∈ U ∧ ∀ i ∈ e.2, i.1 ∈ U := fun e he => by
    rcases mem_set he with he | rfl
    · exact ⟨i2 e he, u2 e he, v2 e he⟩
    · exact ⟨by simp, hb, fun i hi => nomatch hi⟩
  obtain ⟨k4, i4, u4, v4⟩ := mod_ok (U := U) (a := a) (k := b) (f := fun l => defI l a 0) (fun l hl => keys_defI hl) ha s3 (fun e he => (m3 e he).1) (fun e he => (m3 e he).2.1) (fun e he => (m3 e he).2.2)
  refine ⟨k4, i4, u4, v4, fun u v c e => ?_, fun u v c e => ?_, ?_⟩
  · rw [cR_tie ne] at e
    rw [cR_tie ne]
    by_cases c1 : u = a ∧ v = b
    · rw [if_neg fun z => ne (c1.1.symm.trans z.2), if_pos ⟨c1.2, c1.1⟩]; exact ⟨_, rfl⟩
    · rw [if_neg c1] at e
      by_cases c2 : u = b ∧ v = a
      · rw [if_pos ⟨c2.2, c2.1⟩]; exact ⟨_, rfl⟩
      · rw [if_neg c2] at e
        rw [if_neg fun z => c2 ⟨z.2, z.1⟩, if_neg fun z => c1 ⟨z.2, z.1⟩]
        exact h.sym u v c e
  · rw [cR_tie ne] at e
    split at e
    · cases e; decide
    · split at e
      · cases e
        cases q : cR R b a with
        | none => decide
        | some c' => exact h.pos b a c' q
      · exact h.pos u v c e
  · show (getR (modR b _ (setdR (modR a _ (setdR R a)) b)) kB).isSome = true
    rw [getR_mod, Option.isSome_map, getR_set]
    split
    · rfl
    · rw [getR_mod, Option.isSome_map, getR_set]
      split
      · rfl
      · exact h.beg
theorem NetOk.len (h : NetOk U kB R) : R.length ≤ U.length := by
  have := nodup_sub (m := U) h.kd fun x hx => by
    obtain ⟨e, he, rfl⟩ := List.mem_map.mp hx
    exact h.ku e he
  simpa using this
theorem NetOk.ilen (h : NetOk U kB R) : ∀ e ∈ R, e.2.length ≤ U.length := fun e he => by
  have := nodup_sub (m := U) (h.ikd e he) fun x hx => by
    obtain ⟨i, hi, rfl⟩ := List.mem_map.mp hx
    exact h.iku e he i hi
  simpa using this
theorem NetOk.small (h : NetOk U kB R) (hU : U.length < 900) : smallB R = true := by
  unfold smallB
  rw [Bool.and_eq_true]
  have := h.len
  refine ⟨decide_eq_true (by omega), List.all_eq_true.mpr fun e he => decide_eq_true ?_⟩
  have := h.ilen e he
  omega
end
/-! ### programs that tie -/
end Fb
end

section
set_option Elab.async false
set_option linter.all false
set_option maxRecDepth 100000
set_option maxHeartbeats 4000000
/-! A def that gives back a new pair, whose first thing (a list) is new and nobody else's; x, y = such a call. -/
namespace Fb
open PySem PySem.Spec PyProof.Rows L2
/-- v is a new pair of a new list at some a, nobody else's, and of something that does not hold it -/
def PairAt (G : Wd) (N : Addr → Prop) (H0 H : Hp) (d0 d1 : D) (v : V) : Prop :=
  ∃ p a w, v = .ref p ∧ H p = some (.tup [.ref a, w]) ∧ H0 a = none ∧ nestD d0 = none ∧ OwnT G (fun b => N b ∧ b ≠ a) H a d0 ∧ Rep G (fun b => N b ∧ b ≠ a) H d1 w
def PoP (G : Wd) (N : Addr → Prop) (H : Hp) (Q : VK) (q : D × D) : Prop := ∀ v H', Same G H H' → PairAt G (Fr N H) H H' q.1 q.2 v → Q v H'
theorem PairAt.step {G : Wd} {N : Addr → Prop} {H H1 H' : Hp} {d0 d1 : D} {v : V} (s : Same G H H1) (h : PairAt G (Fr (Fr N H) H1) H1 H' d0 d1 v) : PairAt G (Fr N H) H H' d0 d1 v := by
  obtain ⟨p, a, w, e, hp, ha, nn, o, r⟩ := h
  exact ⟨p, a, w, e, hp, s.free ha, nn, o.mono (fun b z _ => ⟨z.1.fr s, z.2⟩) (Same.refl H'), r.sub fun b z => ⟨z.1.fr s, z.2⟩⟩
theorem PoP.step {G : Wd} {N : Addr → Prop} {H H1 : Hp} {Q : VK} {q : D × D} (h : PoP G N H Q q) (s : Same G H H1) : PoP G (Fr N H) H1 Q q := fun v H' s' p' => h v H' (s.trans s') (p'.step s)
abbrev Rp := W Ex (D × D)
/-! ### a body that ends so -/
def tSP (G : Wd) (Wx : WX) (m : En → W (Ex × En) (D × D)) : TS := fun D' σ H => ∃ H0 N0 ρ, SRel G H0 N0 σ H ρ ∧ m ρ (fun q => ∀ v H', Same G H0 H' → PairAt G (Fr N0 H0) H0 H' q.1 q.2 v → D'.rt v H') (PoXS G H0 N0 Wx)
structure DSP (G : Wd) (X : Cx) (Wx : WX) (st : Stmt) (m : En → W (Ex × En) (D × D)) : Prop where
  ps : PS X st (tSP G Wx m)
  mono : ∀ ρ, W.Mono (m ρ)
structure DSsP (G : Wd) (X : Cx) (Wx : WX) (st : List Stmt) (m : En → W (Ex × En) (D × D)) : Prop where
  ps : PSs X st (tSP G Wx m)
  mono : ∀ ρ, W.Mono (m ρ)
section
variable {G : Wd} {X : Cx} {Wx : WX}
end
/-! ### the def -/
structure FnP (P : Program) (w : World) (G : Wd) (base : Heap) (k : Nat) (f : Addr) (fd : FuncData) (ps : List Str) (sem : List D → Rp) : Prop where
  run : ∀ (A : Around) (outer : List Env) (s : Shared) (H : Hp) (args : Args) (us : List Value) (vs : List V) (ds : List D) (N : Addr → Prop) (Q : VK) (E : XK), Room k A → A.guards = some [] → Env0 P w G.K G.mg base A outer s H → TabsG G H →
    BindsTo s fd args (ps.zip us) → Vals vs us → Reps G N H ds vs → vs.length = ps.length →
    sem ds (PoP G N H Q) (fun x => ∀ c dd H', Same G H H' → XRep G (Fr N H) H' x c dd → E c dd H') → codeAny (model P w) A (.call (.ref f) args) (CR (CX P w) outer P w H s Q E) s
  mono : ∀ ds, W.Mono (sem ds)
section
variable {P : Program} {w : World} {G : Wd} {base : Heap} {k j : Nat} {X : Cx} {Wx : WX} {f : Addr} {fd : FuncData} {ps : List Str} {sem : List D → Rp}
/-! ### its call -/
/-- the expression e gives such a pair -/
def tPr (G : Wd) (Wx : WX) (m : Ro → Rp) : TE := fun σ H Q => ∃ N ρ, ERel G N H σ ρ ∧ m ρ (PoP G N H Q) (PoX G N Wx H σ)
structure DP (G : Wd) (X : Cx) (Wx : WX) (e : Expr) (m : Ro → Rp) : Prop where
  pe : PE X e (tPr G Wx m)
  mono : ∀ ρ, W.Mono (m ρ)
structure FnKP (P : Program) (w : World) (G : Wd) (base : Heap) (k : Nat) (x : Str) (ps : List Str) (sem : List D → Rp) : Prop where
  ex : ∃ (f : Addr) (fd : FuncData), G.mg x = some (.ref f) ∧ PySem.W.keepIn G.K (.ref f) = true ∧ Binds G.K fd ps [] ∧ FnP P w G base k f fd ps sem
end
/-! ### x, y = .. -/
section
variable {G : Wd} {X : Cx} {Wx : WX} {H0 H H1 : Hp} {N0 : Addr → Prop} {σ : Fb.St} {ρ : En} {S : Nat ⊕ Nat → Option Addr}
end
end Fb
end

section
set_option Elab.async false
set_option linter.all false
set_option maxRecDepth 100000
set_option maxHeartbeats 4000000
/-! sorted(x), x a list of anything as long as there is one thing at most. -/
namespace Fb
open PySem PySem.Spec PyProof.Rows L2
section
variable {G : Wd} {X : Cx}
end
end Fb
end

section
set_option Elab.async false
set_option linter.all false
set_option maxRecDepth 100000
set_option maxHeartbeats 4000000
/-! x[k] = e where e is a new list, put in whole. -/
namespace Fb
open PySem PySem.Spec PyProof.Rows L2
section
variable {G : Wd} {X : Cx} {Wx : WX}
end
/-! ### as the runner knows them -/
section
variable {n : Nat} {ρ : En} {l : List (Nat × Bool × D)} {Q : Fl × En → Prop} {E : Ex × En → Prop}
end
end Fb
end

section
set_option Elab.async false
set_option linter.all false
set_option maxRecDepth 100000
set_option maxHeartbeats 4000000
/-! str(x) of a tuple that can be shown. -/
namespace Fb
open PySem PySem.Spec PyProof.Rows L2
section
variable {G : Wd} {X : Cx} {Wx : WX}
end
end Fb
end

section
set_option Elab.async false
set_option linter.all false
set_option maxRecDepth 100000
set_option maxHeartbeats 4000000
/-! C(k = e, ..) and o.m(k = e, ..), all by names. -/
namespace Fb
open PySem PySem.Spec PyProof.Rows L2
section
variable {P : Program} {w : World} {G : Wd} {base : Heap} {k j : Nat} {X : Cx} {Wx : WX} {f : Addr} {fd : FuncData} {ps : List Str} {ks : List Str} {is : List Nat}
end
end Fb
end

section
set_option Elab.async false
set_option linter.all false
set_option maxRecDepth 100000
set_option maxHeartbeats 4000000
/-! o().m(k = e, ..), o() a new instance that may change, which nobody keeps. -/
namespace Fb
open PySem PySem.Spec PyProof.Rows L2
section
variable {P : Program} {w : World} {G : Wd} {base : Heap} {k j : Nat} {X : Cx} {Wx : WX} {f : Addr} {fd : FuncData} {ps : List Str} {ks : List Str} {is : List Nat}
end
end Fb
end

section
set_option Elab.async false
set_option linter.all false
set_option maxRecDepth 100000
set_option maxHeartbeats 4000000
/-! the script != [] -/
namespace Fb
open PySem PySem.Spec PyProof.Rows L2
section
variable {X : Cx} {G : Wd}
end
end Fb
end

section
set_option Elab.async false
set_option linter.all false
set_option maxRecDepth 100000
set_option maxHeartbeats 4000000
/-! with C(..) as x: suite; functions that are called with an instance that they may change; Live.within. -/
namespace Fb
open PySem PySem.Spec PyProof.Rows L2
section
variable {P : Program} {w : World} {G : Wd} {base : Heap} {k j : Nat} {X : Cx} {Wx : WX}
/-! ### with -/
end
/-! ### functions that are called with an instance -/
/-- the function k, called with an instance of c that stands alone, does what L tells of it and of what its captured names hold -/
structure AsksM (P : Program) (w : World) (G : Wd) (base : Heap) (kk : Nat) (k : Clo) (L : List D → Rm) (c : Str) (s0 : Shared) (H0 : Hp) : Prop where
  mono : ∀ ds, W.Mono (L ds)
  fn : ∀ (fs : List Addr) (s : Shared) (H : Hp), Un fs [] H0 H s0.heap s.heap → HOk P w H s.heap → PySem.W.FnAt k.f s.heap
  run : ∀ (fs : List Addr) (A : Around) (outer : List Env) (s : Shared) (H : Hp) (cs : List D) (N : Addr → Prop) (x : Addr) (fl : List (Str × D)) (Q : VK) (E : XK), Room kk A → A.guards = some [] → Env0 P w G.K G.mg base A outer s H → TabsG G H → Un fs [] H0 H s0.heap s.heap →
    H k.c = some (LamX.CodeO k.c k.q) → Reps G N H cs k.ws → ¬ N x → (∀ l, nestF fl = some l → ¬ N l ∧ l ≠ x) → OwnT G N H x (.obj x c fl) →
    L (.obj x c fl :: cs) (PoM G N H x (nestF fl) Q) (PoMX G N H x (nestF fl) E) → codeAny (model P w) A (.call (.ref k.f) ⟨[.ref x], []⟩) (CR (CX P w) outer P w H s Q E) s
section
variable {P : Program} {w : World} {G : Wd} {base : Heap} {k j : Nat} {X : Cx} {Wx : WX} {k0 : Clo} {L : List D → Rm} {c : Str}
end

/-! ### a lambda's body that changes its first thing -/
def LamBodyM (P : Program) (w : World) (G : Wd) (base : Heap) (k : Nat) (q : Str) (Nl : List Str) (params : Arguments) (body : Expr) (scope : Scope) (mb : En → W (Ex × En) (D × En)) : Prop :=
  ∀ (cl : List (Str × Addr)) (c' f : Addr) (A : Around) (outer : List Env) (s : Shared) (H : Hp) (E : XK), Cz P w G base k (cxL P w G base Nl (lamNF q params scope cl c') f A outer s H E) (wxD E) → DX G (cxL P w G base Nl (lamNF q params scope cl c') f A outer s H E) (wxD E) body mb
section
variable {P : Program} {w : World} {G : Wd} {base : Heap} {k : Nat} {X : Cx} {Wx : WX} {pins : List (Addr × Obj)} {σ : Fb.St} {H : Hp} {s : Shared} {N : Addr → Prop} {ρ : Ro} {kL : Nat} {c : Addr} {Nl ps fr : List Str} {js : List Nat} {params : Arguments} {body : Expr} {scope : Scope} {pos : Pos} {mb : En → W (Ex × En) (D × En)}
theorem LamBodyM.mono {q : Str} (B : LamBodyM P w G base kL q Nl params body scope mb) (hk : kL ≤ 100) (r : En) : W.Mono (mb r) := (B [] 0 0 A0 [] {} (fun _ => none) (fun _ _ _ => True) ⟨rfl, rfl, rfl, rfl, rfl, room0 hk, rfl, takes_of rfl rfl rfl rfl⟩).mono r
end
/-! ### Live.within -/
section
variable {K : PySem.W.Frag} {CB CL : Addr} {Ns : List Str} {vs : List V} {H : Hp} {Q : VK}
end
/-- what is wanted of a work -/
def withinQ (x : Addr) (d : D) (Q : Bool × D → Prop) (r : (Bool × D) × D) : Prop := (∃ d', r.2 = .obj x "Live" [("past", d')]) ∧ imm r.1.2 = true ∧ Q r.1
/-- what Live.within does, called with a book that stands alone and a function -/
structure FnW (P : Program) (w : World) (G : Wd) (base : Heap) (k j : Nat) (f : Addr) (fd : FuncData) (ps : List Str) : Prop where
  run : ∀ (A : Around) (outer : List Env) (s : Shared) (H : Hp) (args : Args) (cs : List D) (d : D) (N : Addr → Prop) (x : Addr) (Q : VK) (E : XK) (k0 : Clo) (L : List D → Rm), Room k A → A.guards = some [] → Env0 P w G.K G.mg base A outer s H → TabsG G H → AsksM P w G base j k0 L "Live" s H →
    BindsTo s fd args (ps.zip [.ref x, .ref k0.f]) → H k0.c = some (LamX.CodeO k0.c k0.q) → Reps G N H cs k0.ws → ¬ N x → OwnT G N H x (.obj x "Live" [("past", d)]) → imm d = true →
    L (.obj x "Live" [("past", d)] :: cs) (withinQ x d fun r => PoM G N H x none Q (r, .obj x "Live" [("past", d)])) (fun _ => False) → codeAny (model P w) A (.call (.ref f) args) (CR (CX P w) outer P w H s Q E) s
/-! ### x.within(lambda y: ..) -/
section
variable {P : Program} {w : World} {G : Wd} {base : Heap} {k j kF kL : Nat} {X : Cx} {Wx : WX} {f C c : Addr} {fd : FuncData} {gps Nl ps fr : List Str} {js : List Nat} {params : Arguments} {body : Expr} {scope : Scope} {mb : En → W (Ex × En) (D × En)} {i : Nat}
end
/-! ### an instance that changes, made and called with names -/
section
variable {P : Program} {w : World} {G : Wd} {base : Heap} {k j : Nat} {X : Cx} {Wx : WX} {f : Addr} {fd : FuncData} {ps ks : List Str} {is : List Nat} {c : Str}
end
end Fb
end

section
set_option Elab.async false
set_option linter.all false
set_option maxRecDepth 100000
set_option maxHeartbeats 4000000
/-! List blocks whose turns change what a slot holds alone. -/
namespace Fb
open PySem PySem.Spec PyProof.Rows L2
section
variable {G : Wd} {HP H H0 : Hp} {N N0 : Addr → Prop} {S : Nat ⊕ Nat → Option Addr} {σ : Fb.St} {ρ : En} {D : Addr} {vs : List Nat}
end
theorem imms_app : ∀ {xs ys : List D}, imms xs = true → imms ys = true → imms (xs ++ ys) = true
  | [], _, _, h => h
  | x :: xs, ys, h1, h2 => by
    have h1 : (imm x && imms xs) = true := h1
    show (imm x && imms (xs ++ ys)) = true
    rw [and_l h1, imms_app (and_r h1) h2]; rfl
section
variable {G : Wd} {X : Cx} {Wx : WX}
/-- a block's tests that change -/
structure DXTs (G : Wd) (X : Cx) (Wx : WX) (es : List Expr) (m : En → W (Ex × En) (Bool × En)) : Prop where
  pt : PTs X es (tXT G Wx m)
  mono : ∀ ρ, W.Mono (m ρ)
end
end Fb
end

section
set_option Elab.async false
set_option linter.all false
set_option maxRecDepth 100000
set_option maxHeartbeats 4000000
/-! x, .. = y.pop(); x, .. = y.pop() if c else e. -/
namespace Fb
open PySem PySem.Spec PyProof.Rows L2
section
variable {G : Wd} {X : Cx} {Wx : WX} {tg : Expr} {g : TG} {p : D → Option (List (Nat × D))} {sl : List Nat}
end
end Fb
end

section
set_option Elab.async false
set_option linter.all false
set_option maxRecDepth 100000
set_option maxHeartbeats 4000000
/-! Defs that change the thing at a place of their arguments; other instances among the arguments are only read. -/
namespace Fb
open PySem PySem.Spec PyProof.Rows L2
def RepsBut (G : Wd) (N : Addr → Prop) (H : Hp) (p : Nat) (ds : List D) (vs : List V) : Prop := ∀ i d v, i ≠ p → ds[i]? = some d → vs[i]? = some v → Rep G N H d v
structure FnMp (P : Program) (w : World) (G : Wd) (base : Heap) (k : Nat) (f : Addr) (fd : FuncData) (ps : List Str) (c : Str) (p : Nat) (sem : List D → Rm) : Prop where
  run : ∀ (A : Around) (outer : List Env) (s : Shared) (H : Hp) (args : Args) (us : List Value) (vs : List V) (ds : List D) (N : Addr → Prop) (x : Addr) (fs : List (Str × D)) (Q : VK) (E : XK), Room k A → A.guards = some [] → Env0 P w G.K G.mg base A outer s H → TabsG G H →
    BindsTo s fd args (ps.zip us) → Vals vs us → vs.length = ps.length → ds.length = vs.length → vs[p]? = some (.ref x) → ds[p]? = some (.obj x c fs) → RepsBut G N H p ds vs → ¬ N x → (∀ l, nestF fs = some l → ¬ N l ∧ l ≠ x) → OwnT G N H x (.obj x c fs) →
    sem ds (PoM G N H x (nestF fs) Q) (PoMX G N H x (nestF fs) E) → codeAny (model P w) A (.call (.ref f) args) (CR (CX P w) outer P w H s Q E) s
  mono : ∀ ds, W.Mono (sem ds)
section
variable {G : Wd} {N : Addr → Prop} {H : Hp}
end
structure FnKMp (P : Program) (w : World) (G : Wd) (base : Heap) (k : Nat) (x : Str) (ps : List Str) (c : Str) (p : Nat) (sem : List D → Rm) : Prop where
  ex : ∃ (f : Addr) (fd : FuncData), G.mg x = some (.ref f) ∧ PySem.W.keepIn G.K (.ref f) = true ∧ Binds G.K fd ps [] ∧ FnMp P w G base k f fd ps c p sem
section
variable {P : Program} {w : World} {G : Wd} {base : Heap} {k j : Nat} {X : Cx} {Wx : WX} {f : Addr} {fd : FuncData} {ps : List Str} {c : Str} {sem : List D → Rm} {p : Nat}
end
end Fb
end

section
set_option Elab.async false
set_option linter.all false
set_option maxRecDepth 100000
set_option maxHeartbeats 4000000
/-! Defs that change two things, at two places of their arguments. -/
namespace Fb
open PySem PySem.Spec PyProof.Rows L2
/-- all stands but what is at as -/
structure SameT (G : Wd) (as : List Addr) (H H' : Hp) : Prop where
  ext : ∀ a o, a ∉ as → H a = some o → (∀ ps, o ≠ .tbl ps) → H' a = some o
  fre : ∀ a, a ∉ as → H' a = none → H a = none
  tab : TabsG G H → TabsG G H'
section
variable {G : Wd} {H0 H H' : Hp} {N0 N' : Addr → Prop} {S : Nat ⊕ Nat → Option Addr} {σ : Fb.St} {ρ : En}
end
/-! ### the def -/
def asOf (pl : List Nat) (ds : List D) : List Addr := pl.flatMap fun i => match ds[i]? with
  | some d => (objAt d).toList ++ (nestD d).toList
  | none => []
def sOf (pl : List Nat) (ds : List D) : Nat ⊕ Nat → Option Addr
  | .inl i => if i ∈ pl then (ds[i]?).bind objAt else none
  | .inr i => if i ∈ pl then (ds[i]?).bind nestD else none
abbrev Rml := W (Ex × En) ((Bool × D) × En)
/-- what stands alone at a def's end -/
structure OwnFin (G : Wd) (H : Hp) (as : List Addr) (H' : Hp) (S' : Nat ⊕ Nat → Option Addr) (ρ : En) : Prop where
  own : ∀ (i : Nat) (d : D), ρ[i]? = some (some (true, d)) → ∃ a, S' (.inl i) = some a ∧ OwnT G (fun _ => True) H' a d
  nst : ∀ (i : Nat) (d : D) (l : Addr), ρ[i]? = some (some (true, d)) → nestD d = some l → S' (.inr i) = some l
  inj : ∀ (i j : Nat ⊕ Nat) (a : Addr), S' i = some a → S' j = some a → i = j
  new : ∀ (k : Nat ⊕ Nat) (a : Addr), S' k = some a → a ∈ as ∨ H a = none
def PoMl (G : Wd) (H : Hp) (as : List Addr) (Q : VK) (p : (Bool × D) × En) : Prop := ∀ v H' S', SameT G as H H' → OwnFin G H as H' S' p.2 → Rep G (fun _ => True) H' p.1.2 v → Q v H'
def PoMlX (G : Wd) (H : Hp) (as : List Addr) (E : XK) (p : Ex × En) : Prop := ∀ c dd H' S', SameT G as H H' → OwnFin G H as H' S' p.2 → XRep G (fun _ => True) H' p.1 c dd → E c dd H'
def RepsButL (G : Wd) (N : Addr → Prop) (H : Hp) (pl : List Nat) (ds : List D) (vs : List V) : Prop := ∀ i d v, i ∉ pl → ds[i]? = some d → vs[i]? = some v → Rep G N H d v
structure FnMl (P : Program) (w : World) (G : Wd) (base : Heap) (k : Nat) (f : Addr) (fd : FuncData) (ps : List Str) (pl : List Nat) (sem : List D → Rml) : Prop where
  run : ∀ (A : Around) (outer : List Env) (s : Shared) (H : Hp) (args : Args) (us : List Value) (vs : List V) (ds : List D) (N : Addr → Prop) (Q : VK) (E : XK), Room k A → A.guards = some [] → Env0 P w G.K G.mg base A outer s H → TabsG G H →
    BindsTo s fd args (ps.zip us) → Vals vs us → vs.length = ps.length → ds.length = vs.length → (∀ i ∈ pl, ∃ x c fs, ds[i]? = some (.obj x c fs) ∧ vs[i]? = some (.ref x) ∧ OwnT G N H x (.obj x c fs)) → RepsButL G N H pl ds vs →
    (∀ (k j : Nat ⊕ Nat) (a : Addr), sOf pl ds k = some a → sOf pl ds j = some a → k = j) → (∀ a ∈ asOf pl ds, ¬ N a) →
    sem ds (PoMl G H (asOf pl ds) Q) (PoMlX G H (asOf pl ds) E) → codeAny (model P w) A (.call (.ref f) args) (CR (CX P w) outer P w H s Q E) s
  mono : ∀ ds, W.Mono (sem ds)
section
variable {G : Wd} {N : Addr → Prop} {H : Hp}
end
structure FnKMl (P : Program) (w : World) (G : Wd) (base : Heap) (k : Nat) (x : Str) (ps : List Str) (pl : List Nat) (sem : List D → Rml) : Prop where
  ex : ∃ (f : Addr) (fd : FuncData), G.mg x = some (.ref f) ∧ PySem.W.keepIn G.K (.ref f) = true ∧ Binds G.K fd ps [] ∧ FnMl P w G base k f fd ps pl sem
/-! ### the call -/
section
variable {P : Program} {w : World} {G : Wd} {base : Heap} {k jj : Nat} {X : Cx} {Wx : WX} {f : Addr} {fd : FuncData} {ps : List Str} {c c2 : Str} {sem : List D → Rml} {p q : Nat}
end
end Fb
end

section
set_option Elab.async false
set_option linter.all false
set_option maxRecDepth 100000
set_option maxHeartbeats 4000000
/-! a and b as a value, where a, b change; a new list kept, whose turns change. -/
namespace Fb
open PySem PySem.Spec PyProof.Rows L2
section
variable {G : Wd} {X : Cx} {Wx : WX}
end
/-! ### kept -/
section
variable {G : Wd} {H0 H : Hp} {N0 : Addr → Prop} {S : Nat ⊕ Nat → Option Addr} {σ : Fb.St} {ρ : En}
def isObj : D → Bool
  | .obj _ _ _ => true
  | _ => false
/-- only instances are held alone from now on -/
def onlyO (ρ : En) : En := ρ.map fun o => o.map fun r => (r.1 && isObj r.2, r.2)
theorem onlyO_at {ρ : En} {i : Nat} {b : Bool} {d : D} (h : (onlyO ρ)[i]? = some (some (b, d))) : ∃ b0, ρ[i]? = some (some (b0, d)) ∧ b = (b0 && isObj d) := by
  unfold onlyO at h
  rw [List.getElem?_map] at h
  rcases e : ρ[i]? with _ | _ | ⟨b0, d0⟩
  · rw [e] at h; cases h
  · rw [e] at h; cases h
  · rw [e] at h
    cases h
    exact ⟨b0, rfl, rfl⟩
def onlyS (ρ : En) (S : Nat ⊕ Nat → Option Addr) : Nat ⊕ Nat → Option Addr
  | .inl m => match ρ[m]? with
    | some (some (true, .obj _ _ _)) => S (.inl m)
    | _ => none
  | .inr m => match ρ[m]? with
    | some (some (true, .obj _ _ fs)) => nestF fs
    | _ => none
theorem OwnOk.only (o : OwnOk G H0 N0 S σ H ρ) : ∃ S', OwnOk G H0 N0 S' σ H (onlyO ρ) ∧ ∀ k a, S' k = some a → ∃ C dx gs, H a = some (.ins C dx gs) := by
  have le : ∀ {k a}, onlyS ρ S k = some a → S k = some a ∧ ∃ C dx gs, H a = some (.ins C dx gs) := fun {k a} h => by
    rcases k with m | m
    · have h : (match ρ[m]? with | some (some (true, .obj _ _ _)) => S (.inl m) | _ => none) = some a := h
      rcases e : ρ[m]? with _ | _ | ⟨_ | _, d⟩
      · rw [e] at h; cases h
      · rw [e] at h; cases h
      · rw [e] at h; cases h
      · rw [e] at h
        cases d with
        | obj x c fs =>
          have h : S (.inl m) = some a := h
          obtain ⟨b, e1, e2, w⟩ := o.own m _ e
          rw [h] at e2
          cases e2
          obtain ⟨rfl, C, dx, gs, _, q, _⟩ := id w
          exact ⟨h, C, dx, gs, q⟩
        | _ => cases h
    · have h : (match ρ[m]? with | some (some (true, .obj _ _ fs)) => nestF fs | _ => none) = some a := h
      rcases e : ρ[m]? with _ | _ | ⟨_ | _, d⟩
      · rw [e] at h; cases h
      · rw [e] at h; cases h
      · rw [e] at h; cases h
      · rw [e] at h
        obtain ⟨b, e1, e2, w⟩ := o.own m _ e
        cases d with
        | obj x c fs =>
          have h : nestF fs = some a := h
          refine ⟨o.nst m _ a e h, ?_⟩
          obtain ⟨_, C, dx, gs, _, q, rf, _⟩ := w
          obtain ⟨_, C', dx', gs', q', _⟩ := nest_at rf h
          exact ⟨C', dx', gs', q'⟩
        | _ => cases h
  have sub : ∀ b, Out N0 H0 S b → Out N0 H0 (onlyS ρ S) b := fun b h => ⟨h.1, fun k e => h.2 k (le e).1⟩
  refine ⟨onlyS ρ S, ⟨fun k a e => o.new k a (le e).1, fun k a e => o.kind k a (le e).1, fun k j a e1 e2 => o.inj k j a (le e1).1 (le e2).1, fun i d e => ?_, fun i d e => ?_, fun i d l e hl => ?_⟩, fun k a e => (le e).2⟩
  · obtain ⟨b0, e0, eb⟩ := onlyO_at e
    cases b0 with
    | false =>
      obtain ⟨v, e1, r⟩ := o.shr i d e0
      exact ⟨v, e1, r.sub sub⟩
    | true =>
      obtain ⟨a, e1, e2, w⟩ := o.own i d e0
      have out : Out N0 H0 (onlyS ρ S) a := ⟨.inr (o.new _ a e2).1, fun k e => by
        have hk := o.inj _ _ a e2 (le e).1
        subst hk
        have e : (match ρ[i]? with | some (some (true, .obj _ _ _)) => S (.inl i) | _ => none) = some a := e
        rw [e0] at e
        cases d with
        | obj x c fs => cases eb
        | _ => cases e⟩
      refine ⟨.ref a, e1, ?_⟩
      cases d with
      | lst ds =>
        obtain ⟨vs, q, r⟩ := w
        exact ⟨a, vs, rfl, out, q, r.sub sub⟩
      | dic ds =>
        obtain ⟨ks, q, r⟩ := w
        exact ⟨a, ks, rfl, out, .of q, RepK.mono (fun b n _ => sub b n) (Le.refl H) r⟩
      | obj x c fs => cases eb
      | stk _ _ _ _ => exact ⟨a, rfl⟩
      | cel y ds => obtain ⟨e0, vs, q, r⟩ := w; subst e0; exact ⟨rfl, out, vs, q, r.sub sub⟩
      | _ => exact w.elim
  · obtain ⟨b0, e0, eb⟩ := onlyO_at e
    cases b0 with
    | false => cases eb
    | true =>
      obtain ⟨a, e1, e2, w⟩ := o.own i d e0
      refine ⟨a, e1, ?_, w.mono (fun b n _ => sub b n) (Same.refl H)⟩
      cases d with
      | obj x c fs =>
        show (match ρ[i]? with | some (some (true, .obj _ _ _)) => S (.inl i) | _ => none) = some a
        rw [e0]; exact e2
      | _ => cases eb
  · obtain ⟨b0, e0, eb⟩ := onlyO_at e
    cases b0 with
    | false => cases eb
    | true =>
      cases d with
      | obj x c fs =>
        show (match ρ[i]? with | some (some (true, .obj _ _ fs)) => nestF fs | _ => none) = some l
        rw [e0]; exact hl
      | _ => cases eb
end
section
variable {G : Wd} {X : Cx} {Wx : WX}
end
end Fb
end

section
set_option Elab.async false
set_option linter.all false
set_option maxRecDepth 100000
set_option maxHeartbeats 4000000
/-! x = [.. for k in d], d a dict, on one line. -/
namespace Fb
open PySem PySem.Spec PyProof.Rows L2
section
variable {G : Wd} {X : Cx} {Wx : WX}
end
end Fb
end

section
set_option Elab.async false
set_option linter.all false
set_option maxRecDepth 100000
set_option maxHeartbeats 4000000
/-! x.append((p, a new list)): the list is held by x's slot, until x.pop() gives it to another slot. -/
namespace Fb
open PySem PySem.Spec PyProof.Rows L2
section
variable {G : Wd} {H0 H H1 : Hp} {N0 : Addr → Prop} {S : Nat ⊕ Nat → Option Addr} {σ : Fb.St} {ρ : En}
/-- a new list, put on top -/
theorem OwnOk.push (o : OwnOk G H0 N0 S σ H ρ) (h0 : Same G H0 H) (s : Same G H H1) {i : Nat} {ds rows : List D} {p : D} {a x t : Addr} {v : V} {vs ws : List V} (hi : ρ[i]? = some (some (true, .lst ds))) (hS : S (.inl i) = some a) (ha : H a = some (.lst vs)) (hx : H x = none) (hxw : H1 x = some (.lst ws)) (ht : H1 t = some (.tup [v, .ref x]))
    (hp : imm p = true) (rp : Rep G (Fr N0 H0) H1 p v) (hr : imms rows = true) (rr : Reps G (Fr N0 H0) H1 rows ws) : OwnOk G H0 N0 (put S (.inr i) (some x)) σ (upd H1 a (.lst (vs ++ [.ref t]))) (ρ.set i (some (true, .stk ds p x rows))) := by
  have nx : ∀ k, S k ≠ some x := fun k z => (o.new k x z).2 hx
  have hax : a ≠ x := fun z => nx _ (z ▸ hS)
  have ha1 : H1 a = some (.lst vs) := s.at ha
  have hta : t ≠ a := fun z => by rw [z, ha1] at ht; cases ht
  have sub : ∀ b, Out N0 H0 S b → H b ≠ none → Out N0 H0 (put S (.inr i) (some x)) b := fun b h hb => ⟨h.1, fun k z => by
    rcases put_some z with ⟨_, y⟩ | ⟨_, y⟩
    · cases y; exact hb hx
    · exact h.2 k y⟩
  have pS : ∀ {j : Nat ⊕ Nat} {b : Addr}, put S (.inr i) (some x) j = some b → (j = .inr i ∧ b = x) ∨ (j ≠ .inr i ∧ S j = some b) := fun e => (put_some e).imp (fun z => ⟨z.1, (Option.some.inj z.2).symm⟩) id
  have pa : put S (.inr i) (some x) (.inl i) = some a := by unfold put; rw [if_neg fun z => nomatch z]; exact hS
  have lx : LeX G (Out N0 H0 (put S (.inr i) (some x))) H1 (upd H1 a (.lst (vs ++ [.ref t]))) := LeX.upd ha1 trivial (Out.notS pa)
  refine ⟨fun j b e => ?_, fun j b e => ?_, fun j k b e1 e2 => ?_, fun j d e => ?_, fun j d e => ?_, fun j d l e hl => ?_⟩
  · rcases pS e with ⟨_, z⟩ | ⟨_, z⟩
    · subst z
      exact ⟨h0.free hx, by rw [upd_ne (Ne.symm hax), hxw]; exact fun z => nomatch z⟩
    · refine ⟨(o.new j b z).1, ?_⟩
      by_cases hb : b = a
      · rw [hb, upd_same]; exact fun z => nomatch z
      · rw [upd_ne hb]; exact fun y => (o.new j b z).2 (s.free y)
  · rcases pS e with ⟨_, z⟩ | ⟨_, z⟩
    · subst z
      exact ⟨.lst ws, by rw [upd_ne (Ne.symm hax)]; exact hxw, trivial⟩
    · by_cases hb : b = a
      · rw [hb]; exact ⟨_, upd_same, trivial⟩
      · rw [upd_ne hb]
        obtain ⟨u, hu, ku⟩ := o.kind j b z
        exact ⟨u, s.at hu (fun ps z => by subst z; exact ku), ku⟩
  · rcases pS e1 with ⟨h1, z⟩ | ⟨h1, z⟩
    · rcases pS e2 with ⟨h2, y⟩ | ⟨h2, y⟩
      · rw [h1, h2]
      · subst z; exact absurd y (nx k)
    · rcases pS e2 with ⟨h2, y⟩ | ⟨h2, y⟩
      · subst y; exact absurd z (nx j)
      · exact o.inj j k b z y
  · by_cases hj : j = i
    · subst hj
      rw [List.getElem?_set_self', hi] at e
      cases e
    · rw [List.getElem?_set_ne (Ne.symm hj)] at e
      obtain ⟨v, e1, r1⟩ := o.shr j d e
      exact ⟨v, e1, (r1.mono sub (Le.of s)).monoX (fun _ n _ => n) lx⟩
  · by_cases hj : j = i
    · subst hj
      rw [List.getElem?_set_self', hi] at e
      cases e
      obtain ⟨b, e1, e2, ws2, hws2, rs⟩ := o.own j _ hi
      rw [hS] at e2
      cases e2
      rw [ha] at hws2
      cases hws2
      refine ⟨a, e1, pa, vs, t, v, ws, upd_same, (rs.mono sub (Le.of s)).monoX (fun _ n _ => n) lx, by rw [upd_ne hta]; exact ht, (Rep.imm hp rp).monoX (fun _ n _ => n) lx, by rw [upd_ne (Ne.symm hax)]; exact hxw, (Reps.imm hr rr).monoX (fun _ n _ => n) lx⟩
    · rw [List.getElem?_set_ne (Ne.symm hj)] at e
      obtain ⟨b, e1, e2, r1⟩ := o.own j d e
      have hb : b ≠ a := fun z => hj (Sum.inl.inj (o.inj _ _ _ (z ▸ e2) hS))
      refine ⟨b, e1, ?_, (r1.mono sub s).monoX (fun _ n _ => n) (LeX.upd ha1 trivial fun z => z.elim (Out.notS pa) fun z => ?_) (upd_ne hb)⟩
      · unfold put
        rw [if_neg fun z => nomatch z]
        exact e2
      · exact nomatch o.inj _ _ _ (o.nst j d a e z) hS
  · by_cases hj : j = i
    · subst hj
      rw [List.getElem?_set_self', hi] at e
      cases e
      cases hl
      unfold put
      rw [if_pos rfl]
    · rw [List.getElem?_set_ne (Ne.symm hj)] at e
      unfold put
      rw [if_neg fun z => hj (Sum.inr.inj z)]
      exact o.nst j d l e hl
end
section
variable {G : Wd} {X : Cx} {Wx : WX}
end
section
variable {G : Wd} {X : Cx} {Wx : WX} {tg : Expr} {g : TG} {p : D → Option (List (Nat × D))} {sl : List Nat}
end
/-! as the runner knows them -/
section
variable {n : Nat} {ρ : En} {l : List (Nat × Bool × D)} {Q : Fl × En → Prop} {E : Ex × En → Prop}
end
end Fb
end

section
set_option Elab.async false
set_option linter.all false
set_option maxRecDepth 100000
set_option maxHeartbeats 4000000
/-! with C(..) as x: suite, where the suite may raise. -/
namespace PySem.W
open Lean Elab Tactic Meta PySem PySem.Calls PyProof.Rows
section
variable {prog : Program} {w : World} {A : Around} {E : Value → Shared → Prop} {s : Shared} {env : Env} {K : Frag} {x C L fe fx : Addr} {h₀ : Heap} {m : Str → Option Value} {ox : Obj} {od : Option Obj} {pos : Pos}
end
end PySem.W
namespace Fb
open PySem PySem.Spec PyProof.Rows L2
/-! ### a def called while an exception is handled -/
/-- .. does what pre says -/
structure FnH (P : Program) (w : World) (G : Wd) (base : Heap) (k : Nat) (f : Addr) (fd : FuncData) (ps : List Str) (pre : List V → Hp → VK → Prop) : Prop where
  run : ∀ (A : Around) (e : Value) (outer : List Env) (s : Shared) (H : Hp) (args : Args) (us : List Value) (vs : List V) (Q : VK), Room k A → A.guards = some [] → Env0 P w G.K G.mg base A outer s H →
    BindsTo s fd args (ps.zip us) → Vals vs us → vs.length = ps.length → pre vs H Q → codeAny (model P w) (A.mark (some e)) (.call (.ref f) args) (fun r s' => match r with | .ok (.ret u) => CE outer P w H s Q u s' | _ => False) s
/-! ### the exception of a with's suite -/
section
variable {P : Program} {w : World} {G : Wd} {base : Heap} {k j : Nat} {X : Cx} {Wx Wout : WX} {px : List V → Hp → VK → Prop} {y fx : Addr} {fdx : FuncData} {psx : List Str}
/-! ### with -/
end
section
variable {P : Program} {w : World} {G : Wd} {base : Heap} {k j : Nat} {X : Cx} {Wx : WX} {k0 : Clo} {L : List D → Rm} {c : Str}
end
/-- what is wanted of a work that raises: the class is one of cl -/
def withinE (cl : List Str) (x : Addr) (E : Ex → Prop) (r : Ex × D) : Prop := (∃ d', r.2 = .obj x "Live" [("past", d')]) ∧ r.1.cls ∈ cl ∧ immF r.1.fs = true ∧ E r.1
/-- what Live.within does, called with a book that stands alone and a function -/
structure FnWX (cl : List Str) (P : Program) (w : World) (G : Wd) (base : Heap) (k j : Nat) (f : Addr) (fd : FuncData) (ps : List Str) : Prop where
  run : ∀ (A : Around) (outer : List Env) (s : Shared) (H : Hp) (args : Args) (cs : List D) (d : D) (N : Addr → Prop) (x : Addr) (Q : VK) (E : XK) (k0 : Clo) (L : List D → Rm), Room k A → A.guards = some [] → Env0 P w G.K G.mg base A outer s H → TabsG G H → AsksM P w G base j k0 L "Live" s H →
    BindsTo s fd args (ps.zip [.ref x, .ref k0.f]) → H k0.c = some (LamX.CodeO k0.c k0.q) → Reps G N H cs k0.ws → ¬ N x → OwnT G N H x (.obj x "Live" [("past", d)]) → imm d = true →
    L (.obj x "Live" [("past", d)] :: cs) (withinQ x d fun r => PoM G N H x none Q (r, .obj x "Live" [("past", d)])) (withinE cl x fun e => PoMX G N H x none E (e, .obj x "Live" [("past", d)])) → codeAny (model P w) A (.call (.ref f) args) (CR (CX P w) outer P w H s Q E) s
section
variable {P : Program} {w : World} {G : Wd} {base : Heap} {k j kF kL : Nat} {X : Cx} {Wx : WX} {f C c : Addr} {fd : FuncData} {gps Nl ps fr : List Str} {js : List Nat} {params : Arguments} {body : Expr} {scope : Scope} {mb : En → W (Ex × En) (D × En)} {i : Nat}
end
end Fb
end

section
set_option Elab.async false
set_option linter.all false
set_option maxRecDepth 100000
set_option maxHeartbeats 4000000
/-! (e, ..) and e[k] where the parts change what slots hold alone. -/
namespace Fb
open PySem PySem.Spec PyProof.Rows L2
def PoXA (G : Wd) (H0 : Hp) (N0 : Addr → Prop) (σ : Fb.St) (H : Hp) (Q : List V → Hp → Prop) (p : List D × En) : Prop := ∀ vs H', SRel G H0 N0 σ H' p.2 → Ch G H H' → Reps G (Fr N0 H0) H' p.1 vs → Q vs H'
def tXA (G : Wd) (Wx : WX) (m : En → W (Ex × En) (List D × En)) : TA := fun σ H Q => ∃ H0 N0 ρ, SRel G H0 N0 σ H ρ ∧ m ρ (PoXA G H0 N0 σ H Q) (PoXS G H0 N0 Wx)
structure DXA (G : Wd) (X : Cx) (Wx : WX) (es : List Expr) (m : En → W (Ex × En) (List D × En)) : Prop where
  pa : PA X es (tXA G Wx m)
  mono : ∀ ρ, W.Mono (m ρ)
section
variable {G : Wd} {X : Cx} {Wx : WX}
end
end Fb
end

section
set_option Elab.async false
set_option linter.all false
set_option maxRecDepth 100000
set_option maxHeartbeats 4000000
/-! C(k = e) of an own error's class. -/
namespace Fb
open PySem PySem.Spec PyProof.Rows L2
section
open PySem.W PySem.HandSPX PySem.Builtin PySem.Builtin.ObjectAttr
variable {M : Model} {A : Around} {E : Value → Shared → Prop} {h : Heap} {g : Array GenState} {d : Drawn} {t : Nat} {os : OsState}
variable {nm q : Str} {C N : Addr} {bs bm bmB : List Value} {hdct : Bool} {sn : List Str} {sub : List Value} {ab : Bool} {col : Option Bool} {dd : Option Addr} {k0 k1 k2 k3 k5 : Option Value} {B newId initId : String}
theorem check_newG (F : ExcBaseFacts B newId initId bmB) (hcB : (Value.ref C :: bm).contains (.type B) = true) {rest : List Value} {pn : Str} {v : Value} {Q : Unit → Shared → Prop}
    (hC : h.get? C = some (excClassObj nm q C N bs bm hdct sn sub ab col dd k0 k1 k2 k3 k5 newId)) (hq : Q () ⟨h, g, d, t, os⟩) : wpAny M A (checkBuiltinCall newId ⟨.ref C :: rest, [(pn, v)]⟩) Q E ⟨h, g, d, t, os⟩ := by
  have hcont := hcB
  have hstar := F.noStar
  simp only [checkBuiltinCall, F.newKind, F.newSplit, F.newRow]
  repeat (first | refine wpAny_loadPart_at hC ?_ | (refine wpAny_isSubtype_exc hC ?_; rw [hcont]) | refine wpAny_staticBase_exc hC ?_ | refine wpAny_madeBy_exc hC ?_ | simp only [bne_self_eq_false, Bool.false_eq_true, if_false] | wp_step)
  exact hq
end
section
open PySem.W PySem.HandSPX PySem.Builtin PySem.Builtin.ObjectAttr
variable {prog : Program} {w : World} {A : Around} {E : Value → Shared → Prop} {R : Result → Shared → Prop} {h : Heap} {g : Array GenState} {d : Drawn} {t : Nat} {os : OsState}
variable {nm q : Str} {C N : Addr} {bs bm bmB : List Value} {hdct : Bool} {sn : List Str} {sub : List Value} {ab : Bool} {col : Option Bool} {dd : Option Addr} {k0 k1 k2 k3 k5 : Option Value} {B newId initId : String}
theorem newG (F : ExcBaseFacts B newId initId bmB) (hcB : (Value.ref C :: bm).contains (.type B) = true) (hcA : (Value.ref C :: bm).contains (.type "AttributeError") = false) (hcN : (Value.ref C :: bm).contains (.type "NameError") = false) {rest : List Value} {pn : Str} {v : Value}
    (hC : h.get? C = some (excClassObj nm q C N bs bm hdct sn sub ab col dd k0 k1 k2 k3 k5 newId))
    (hq : R (.ok (.ret (.ref (h.objs.size + 1)))) ⟨(h.push { cls := .type "tuple", data := .seq rest.toArray }).push
      { cls := .ref C, data := .fields #[.ref h.objs.size, .none, .none, .none, .bool false, .none] }, g, d, t, os⟩) (hrest : rest.length ≤ sizeLine) :
    codeAny (model prog w) A (.builtin newId ⟨.ref C :: rest, [(pn, v)]⟩) R ⟨h, g, d, t, os⟩ := by
  have hends := F.ends
  refine codeAny_builtinAt F.entry ?_
  unfold Builtin.«BaseException.__new__»
  refine PySem.wpAt_bind ?_
  show PySem.wpAt _ _ _ (stack >>= _) _ _ _
  refine PySem.wpAt_bind (PySem.wpAt_stack fun p below => PySem.wpAt_of_wpAny ?_)
  wp_walk
  refine PySem.wpAt_of_wpAny ?_
  rw [F.owner]
  repeat (first | with_reducible refine wpAny_madeHere_exc F.canon hC ?_ | with_reducible refine wpAny_loadPart_at hC ?_ | (with_reducible refine wpAny_isSubtype_exc hC ?_; first | rw [hcB] | rw [hcA] | rw [hcN]) | wp_step)
  show R _ _
  rw [Heap.size_push]
  exact hq
theorem type_callG (F : ExcBaseFacts B newId initId bmB) (hcB : (Value.ref C :: bm).contains (.type B) = true) (hcA : (Value.ref C :: bm).contains (.type "AttributeError") = false) (hcN : (Value.ref C :: bm).contains (.type "NameError") = false) {rest : List Value} {pn : Str} {v : Value} {fI : Addr} {Q : Fin → Shared → Prop}
    (hC : h.get? C = some (excClassObj nm q C N bs bm hdct sn sub ab col dd k0 k1 k2 k3 k5 newId))
    (hi : W.Looks (model prog w) h (typeLookup (.ref C) "__init__") (some (.ref fI))) (hb : ∀ self, W.Looks (model prog w) h (bindSpecial (.ref fI) self) (.ref fI, [self])) (hrest : rest.length ≤ sizeLine)
    (hq : codeAny (model prog w) A (.call (.ref fI) ⟨.ref (h.objs.size + 1) :: rest, [(pn, v)]⟩)
      (fun r s' => match r with | .ok (.ret v) => v = .none ∧ Q (.done (.ret (.ref (h.objs.size + 1)))) s' | .ok _ => False | .error e => E e s')
      ⟨(h.push (W.kdv_tup rest)).push (excO C h.objs.size), g, d, t, os⟩) :
    wpAny (model prog w) A (Builtin.«type.__call__» ⟨.ref C :: rest, [(pn, v)]⟩) Q E ⟨h, g, d, t, os⟩ := by
  repeat (first | with_reducible refine wpAny_loadPart_at hC ?_ | with_reducible refine wpAny_madeBy_exc hC ?_ | wp_step)
  refine codeAny_call_builtin_code (Code.quiet_builtin _ F.quiet) (check_newG F hcB hC ?_)
  refine newG F hcB hcA hcN hC ?_ hrest
  show wpAny _ _ _ _ _ _
  have k : ∀ b o, h.get? b = some o → ((h.push (W.kdv_tup rest)).push (excO C h.objs.size)).get? b = some o := fun b o e => Heap.get?_push_of_some _ (Heap.get?_push_of_some _ e)
  have hC₁ := k _ _ hC
  have hget : ((h.push (W.kdv_tup rest)).push (excO C h.objs.size)).get? (h.objs.size + 1) = some (excO C h.objs.size) := by heap_get
  have hcC : (Value.ref C :: bm).contains (.ref C) = true := by simp
  have i1 := hi.keeps k
  have b1 := (hb (.ref (h.objs.size + 1))).keeps k
  unfold isInstance
  repeat (first | with_reducible refine wpAny_loadPart_at hget ?_ | (with_reducible refine wpAny_isSubtype_exc hC₁ ?_; rw [hcC]) | wp_step)
  show wpAny _ _ (typeLookup (.ref C) _) _ _ _
  refine i1.at ?_
  refine wpAny_holding (wpAny_bind (b1.at ?_))
  refine wpAny_bind (wpAny_call (codeAny_mono hq fun r s' z => ?_))
  rcases r with e | (v | _ | _ | _) <;> first | exact z | exact z.elim | skip
  obtain ⟨rfl, z⟩ := z
  first
    | exact wpAny_pure (wpAny_pure z)
    | (wp_walk; exact z)
theorem callG (F : ExcBaseFacts B newId initId bmB) (hcB : (Value.ref C :: bm).contains (.type B) = true) (hcA : (Value.ref C :: bm).contains (.type "AttributeError") = false) (hcN : (Value.ref C :: bm).contains (.type "NameError") = false) {rest : List Value} {pn : Str} {v : Value} {fI : Addr}
    (hC : h.get? C = some (excClassObj nm q C N bs bm hdct sn sub ab col dd k0 k1 k2 k3 k5 newId))
    (hi : W.Looks (model prog w) h (typeLookup (.ref C) "__init__") (some (.ref fI))) (hb : ∀ self, W.Looks (model prog w) h (bindSpecial (.ref fI) self) (.ref fI, [self])) (hrest : rest.length ≤ sizeLine)
    (hq : codeAny (model prog w) (A.under (.builtin "type.__call__" ⟨.ref C :: rest, [(pn, v)]⟩)) (.call (.ref fI) ⟨.ref (h.objs.size + 1) :: rest, [(pn, v)]⟩) (W.InitBack (h.objs.size + 1) R)
      ⟨(h.push (W.kdv_tup rest)).push (excO C h.objs.size), g, d, t, os⟩) :
    codeAny (model prog w) A (.call (.ref C) ⟨rest, [(pn, v)]⟩) R ⟨h, g, d, t, os⟩ := by
  have f1 := tc_lookup
  have f2 := tc_bind (.ref C)
  have hTy : (⟨h, g, d, t, os⟩ : Shared).TypeIs (.ref C) "type" := ⟨_, hC, rfl⟩
  refine codeAny_of_tree ?_
  show wpAny _ _ (callAny (.ref C) _) _ _ _
  repeat (any_goals (first | assumption | with_reducible refine wpAny_loadPart_at hC ?_ | wp_step))
  refine ⟨rfl, ?_⟩
  refine codeAny_call_builtin_at (Code.quiet_builtin _ (by decide +kernel)) entry_typeCall (wpAny_check_type_call_sub hC (type_callG F hcB hcA hcN hC hi hb hrest ?_))
  refine codeAny_mono hq fun r s' z => ?_
  rcases r with e | (v | _ | _ | _) <;> exact z
end
end Fb
end

section
set_option Elab.async false
set_option linter.all false
set_option maxRecDepth 100000
set_option maxHeartbeats 4000000
/-! Own errors held as values. -/
namespace Fb
open PySem PySem.Spec PyProof.Rows L2
section
open PySem.W
variable {P : Program} {w : World} {A : Around} {E : Value → Shared → Prop} {h : Heap} {g : Array GenState} {d : Drawn} {t : Nat} {os : OsState}
theorem init_runA {K : Frag} {mg : Str → Option Value} {base : Heap} {C fI x t0 : Addr} {fld prm qual : Str} {st : Stmt} {v : Value} {args : Args} {R : Result → Shared → Prop}
    (T : XIni P K C fld qual st fI) (Sh : XShape st fld prm) (M : Mod K mg base) (hsup : mg "super" = none) (bk : ∀ b o, base.get? b = some o → h.get? b = some o) (hroom : A.depth < recursionLimit) (hxb : base.get? x = none)
    (hx : h.get? x = some (excObj C t0 none .none))
    (hbind : ∀ (qual : Str) (kV doc pm ct : Value) (an : Option Addr) (cdv : Value) (cc : Addr), bindArgs (ksFn "__init__" qual (defArgs st) (defBody st) (defScope st) .none kV doc pm an cdv ct cc) args = pure ([("self", .ref x), (prm, v)] : List (Str × Value)))
    (hq : ∀ h' t' dx t1, (∀ b o, b ≠ x → h.get? b = some o → h'.get? b = some o) → x < dx → h'.get? x = some (excObj C t1 (some dx) .none) → h'.Ns1 dx (fun y => if y = fld then some v else none) → R (.ok (.ret .none)) ⟨h', g, d, t', os⟩) :
    codeAny (model P w) A (.call (.ref fI) args) R ⟨h, g, d, t, os⟩ := by
  obtain ⟨oc, od, kV, doc, pm, ct, an, osl, cda, cc, ccl, cl, cdd, cld, vs, ccs, csl, tf, file, lf, lcd, lcda, hvs, hfile, lcc⟩ := T.fn.fn
  obtain ⟨p0, p1, p2, p3, p4, p5, p6, p7, p8, hb, hev⟩ := Sh.body
  have kin : K.In h := M.kin.keeps bk
  obtain ⟨mb, hmb, hmb2⟩ := M.blt
  have L0 : x < h.objs.size := Heap.lt_size hx
  obtain ⟨ar, hp, har⟩ : ∃ ar, ((defArgs st).posonlyargs ++ (defArgs st).args).head? = some ar ∧ ar.arg = "self" := by
    have := Sh.fst
    rcases e : ((defArgs st).posonlyargs ++ (defArgs st).args).head? with _ | ar
    · rw [e] at this; cases this
    · rw [e] at this
      exact ⟨ar, rfl, Option.some.inj this⟩
  refine ks_codeAny_call_defAt (fd := ksFn "__init__" qual (defArgs st) (defBody st) (defScope st) .none kV doc pm an (.ref cda) ct cc) (body := defBody st) (binds := [("self", .ref x), (prm, v)]) hroom (kin _ _ lf) rfl (M.nolimit.keeps bk) (codeRec_of kin lcd) rfl (.of_eq (hbind _ _ _ _ _ _ _ _)) Sh.cell ?_ (fun h0 hns k0 => ?_) Sh.co Sh.gen Sh.kind
  · intro y hy
    simp only [List.mem_cons, List.not_mem_nil, or_false] at hy
    rcases hy with rfl | rfl
    · exact Sh.l1
    · exact Sh.l2
  have kin0 : K.In h0 := kin.keeps k0
  have gl0 : h0.Ns mainGlobals mg := (M.glob.keeps bk).keeps k0
  have bl0 : h0.Ns builtinsNs mb := (hmb.keeps bk).keeps k0
  have lself : (([("self", .ref x), (prm, v)] : List (Str × Value)).reverse.lookup ("self" : Str)) = some (.ref x) := by
    show List.lookup ("self" : Str) [(prm, v), ("self", Value.ref x)] = _
    rw [List.lookup_cons, beq_eq_false_iff_ne.mpr Sh.sp]
    rfl
  have lprm : (([("self", .ref x), (prm, v)] : List (Str × Value)).reverse.lookup prm) = some v := by
    show List.lookup prm [(prm, v), ("self", Value.ref x)] = _
    rw [List.lookup_cons, beq_self_eq_true]
  rw [hb]
  obtain ⟨pl, he⟩ := hev (ksEnv qual (defScope st) h.objs.size fI (.ref cda) cc)
  refine ks_wpAt_mono (Q := fun f s' => f = .next ∧ R (.ok (.ret .none)) s') (E := fun _ _ => False) (init_body (fld := fld) (prm := prm) (m := fun y => ([("self", .ref x), (prm, v)] : List (Str × Value)).reverse.lookup y) T hsup kin0 gl0 bl0 ((hmb2 "super" (by decide)).trans (by decide +kernel)) Sh.kind Sh.l1 Sh.l2 Sh.ks Sh.kc rfl rfl rfl rfl rfl rfl lf hp har lcda hvs hfile lcc hns lself lprm (Nat.ne_of_gt L0) (fun b o e z => ?_) Sh.dbg (k0 _ _ hx) he fun h' t' dx t1 k lt hx' hn' => ⟨rfl, hq h' t' dx t1 (fun b o hb e => k b o hb (k0 b o e)) lt hx' hn'⟩) (fun f s' z => ?_) (fun _ _ z => z.elim)
  · have := M.kin b o e
    rw [z, hxb] at this
    cases this
  · obtain ⟨rfl, z⟩ := z
    exact z
theorem init_runKA {K : Frag} {mg : Str → Option Value} {base : Heap} {C fI x t0 : Addr} {fld prm qual : Str} {st : Stmt} {v : Value} {args : Args} {R : Result → Shared → Prop}
    (T : XIniK P K C fld qual st fI) (Sh : XShape st fld prm) (M : Mod K mg base) (hsup : mg "super" = none) (bk : ∀ b o, base.get? b = some o → h.get? b = some o) (hroom : A.depth < recursionLimit) (hxb : base.get? x = none)
    (hx : h.get? x = some (excObj C t0 none .none))
    (hbind : ∀ (qual : Str) (kV doc pm ct : Value) (an : Option Addr) (cdv : Value) (cc : Addr), bindArgs (ksFn "__init__" qual (defArgs st) (defBody st) (defScope st) .none kV doc pm an cdv ct cc) args = pure ([("self", .ref x), (prm, v)] : List (Str × Value)))
    (hq : ∀ h' t' dx t1, (∀ b o, b ≠ x → h.get? b = some o → h'.get? b = some o) → x < dx → h'.get? x = some (excObj C t1 (some dx) .none) → h'.Ns1 dx (fun y => if y = fld then some v else none) → R (.ok (.ret .none)) ⟨h', g, d, t', os⟩) :
    codeAny (model P w) A (.call (.ref fI) args) R ⟨h, g, d, t, os⟩ := by
  obtain ⟨oc, od, kV, doc, pm, ct, an, osl, cda, cc, ccl, cl, cdd, cld, vs, ccs, csl, tf, file, lf, lcd, lcda, hvs, hfile, lcc⟩ := T.fn.fn
  obtain ⟨p0, p1, p2, p3, p4, p5, p6, p7, p8, hb, hev⟩ := Sh.body
  have kin : K.In h := M.kin.keeps bk
  obtain ⟨mb, hmb, hmb2⟩ := M.blt
  have L0 : x < h.objs.size := Heap.lt_size hx
  obtain ⟨ar, hp, har⟩ : ∃ ar, ((defArgs st).posonlyargs ++ (defArgs st).args).head? = some ar ∧ ar.arg = "self" := by
    have := Sh.fst
    rcases e : ((defArgs st).posonlyargs ++ (defArgs st).args).head? with _ | ar
    · rw [e] at this; cases this
    · rw [e] at this
      exact ⟨ar, rfl, Option.some.inj this⟩
  refine ks_codeAny_call_defAt (fd := ksFn "__init__" qual (defArgs st) (defBody st) (defScope st) .none kV doc pm an (.ref cda) ct cc) (body := defBody st) (binds := [("self", .ref x), (prm, v)]) hroom (kin _ _ lf) rfl (M.nolimit.keeps bk) (codeRec_of kin lcd) rfl (.of_eq (hbind _ _ _ _ _ _ _ _)) Sh.cell ?_ (fun h0 hns k0 => ?_) Sh.co Sh.gen Sh.kind
  · intro y hy
    simp only [List.mem_cons, List.not_mem_nil, or_false] at hy
    rcases hy with rfl | rfl
    · exact Sh.l1
    · exact Sh.l2
  have kin0 : K.In h0 := kin.keeps k0
  have gl0 : h0.Ns mainGlobals mg := (M.glob.keeps bk).keeps k0
  have bl0 : h0.Ns builtinsNs mb := (hmb.keeps bk).keeps k0
  have lself : (([("self", .ref x), (prm, v)] : List (Str × Value)).reverse.lookup ("self" : Str)) = some (.ref x) := by
    show List.lookup ("self" : Str) [(prm, v), ("self", Value.ref x)] = _
    rw [List.lookup_cons, beq_eq_false_iff_ne.mpr Sh.sp]
    rfl
  have lprm : (([("self", .ref x), (prm, v)] : List (Str × Value)).reverse.lookup prm) = some v := by
    show List.lookup prm [(prm, v), ("self", Value.ref x)] = _
    rw [List.lookup_cons, beq_self_eq_true]
  rw [hb]
  obtain ⟨pl, he⟩ := hev (ksEnv qual (defScope st) h.objs.size fI (.ref cda) cc)
  refine ks_wpAt_mono (Q := fun f s' => f = .next ∧ R (.ok (.ret .none)) s') (E := fun _ _ => False) (init_bodyK (fld := fld) (prm := prm) (m := fun y => ([("self", .ref x), (prm, v)] : List (Str × Value)).reverse.lookup y) T hsup kin0 gl0 bl0 ((hmb2 "super" (by decide)).trans (by decide +kernel)) Sh.kind Sh.l1 Sh.l2 Sh.ks Sh.kc rfl rfl rfl rfl rfl rfl lf hp har lcda hvs hfile lcc hns lself lprm (Nat.ne_of_gt L0) (fun b o e z => ?_) Sh.dbg (k0 _ _ hx) he fun h' t' dx t1 k lt hx' hn' => ⟨rfl, hq h' t' dx t1 (fun b o hb e => k b o hb (k0 b o e)) lt hx' hn'⟩) (fun f s' z => ?_) (fun _ _ z => z.elim)
  · have := M.kin b o e
    rw [z, hxb] at this
    cases this
  · obtain ⟨rfl, z⟩ := z
    exact z
end
theorem objOk_exv {P : Program} {w : World} {H : Hp} {h : Heap} {a : Addr} {cls : Value} {dd : Option Addr} {oe : Obj} {vs : Array Value} (e : h.get? a = some oe) (z : Zc cls dd oe) (d : oe.data = .fields vs) : ObjOk P w H h a (.ext (excAt cls dd a)) :=
  ⟨⟨oe, vs, e, z, d⟩, ⟨oe, e⟩, fun _ _ ⟨o, v, q, r⟩ k => ⟨o, v, k o q, r⟩⟩
/-- the new error is tracked -/
def QxE (Q : VK) (C : Addr) (fld : Str) (y : V) (H1 : Hp) : Prop := ∀ dx x, H1 dx = none → H1 x = none → x ≠ dx → Q (.ref x) (upd (upd H1 dx (.xd [(fld, y)])) x (.ext (excAt (.ref C) (some dx) x)))
section
variable {X : Cx}
theorem exv_tail {pins : List (Addr × Obj)} {σ : Fb.St} {H1 : Hp} {hp h' : Heap} {g : Array GenState} {dr : Drawn} {tk t' : Nat} {os : OsState} {C dx t1 : Addr} {fld : Str} {y : V} {v : Value} {Q : VK} (J1 : Inv X pins σ H1 ⟨hp, g, dr, tk, os⟩)
    (k : ∀ b o, b ≠ hp.objs.size + 1 → hp.get? b = some o → h'.get? b = some o) (lt : hp.objs.size + 1 < dx) (hx' : h'.get? (hp.objs.size + 1) = some (PySem.W.excObj C t1 (some dx) .none)) (hn' : h'.Ns1 dx (fun y => if y = fld then some v else none)) (ry : RelV y v) (q : QxE Q C fld y H1) :
    EP X pins σ Q (.ref (hp.objs.size + 1)) ⟨h', g, dr, t', os⟩ := by
  have ne : ∀ {b : Addr} {o : Obj}, hp.get? b = some o → b ≠ hp.objs.size + 1 := fun {b o} e => Nat.ne_of_lt (Nat.lt_succ_of_lt (Heap.lt_size e))
  obtain ⟨Gh, g1, g2⟩ := restrict h' fun b => decide (b ≠ hp.objs.size + 1)
  have gk : ∀ b, b ≠ hp.objs.size + 1 → Gh.get? b = h'.get? b := fun b hb => g1 b (decide_eq_true hb)
  have ge : Gh.get? (hp.objs.size + 1) = none := g2 _ (by simp)
  have kG : ∀ b o, hp.get? b = some o → Gh.get? b = some o := fun b o e => by rw [gk b (ne e)]; exact k b o (ne e) e
  have le : hp.objs.size ≤ dx := Nat.le_of_lt (Nat.lt_trans (Nat.lt_succ_self _) lt)
  have hdn : H1 dx = none := J1.hok.fresh le
  have na : H1 (hp.objs.size + 1) = none := J1.hok.fresh (Nat.le_succ _)
  have dne : dx ≠ hp.objs.size + 1 := Nat.ne_of_gt lt
  have J : Inv X pins σ (upd H1 dx (.xd [(fld, y)])) ⟨Gh, g, dr, t', os⟩ := J1.laid (t' := t') (a := dx) (o := .xd [(fld, y)]) (h' := Gh) kG le ⟨_, hn'.at fun o e => (gk dx dne).trans e, relO_put (fs := []) ry fun g => True.intro⟩
  have J2 : Inv X pins σ (upd (upd H1 dx (.xd [(fld, y)])) (hp.objs.size + 1) (.ext (excAt (.ref C) (some dx) (hp.objs.size + 1)))) ⟨h', g, dr, t', os⟩ := J.laidN (t' := t') (h' := h') (fun b u z => by
    by_cases hb : b = hp.objs.size + 1
    · rw [hb, ge] at z; cases z
    · exact (gk b hb).symm.trans z) ge (by rw [upd_ne (Ne.symm dne)]; exact na) (objOk_exv hx' ⟨rfl, rfl⟩ rfl)
  exact ⟨V.ref (hp.objs.size + 1), _, J2, rfl, q dx _ hdn na (Ne.symm dne)⟩
theorem pe_exf {n fld prm qual : Str} {st : Stmt} {C fI : Addr} {e : Expr} {te : TE} {p pos : Pos} (T : XIni X.prog X.K C fld qual st fI) (Sh : XShape st fld prm) (hsup : X.mg "super" = none) (hroom : Room 1 X.A) (hg : Gl X n) (hm : X.mg n = some (.ref C)) (ha : PE X e te)
    (hdb : (n == ("__debug__" : Str)) = false := by decide) (he : starEach [e] X.env = (false, eval e X.env) :: starEach [] X.env := by rfl) (hpl : (backTo pos (starEach [] X.env)).any (·.1) = false := by rfl) :
    PE X (.Call (.Name n p) [e] [] pos) (fun σ H Q => te σ H fun y H1 => QxE Q C fld y H1) := by
  refine ⟨fun pins s σ H Q I h => ?_⟩
  obtain ⟨nm, q, N, bs, bm, sn, sub, ab, col, dd, k0, k1, k2, k3, k5, hC, hbm⟩ := T.oex.cls
  refine wpAny_Call_Name_kw (ld_glob I hg hm ?_ hdb)
  refine PySem.W.callWith_K (h₀ := X.base) I.ok.mod.kin T.oex.kC (thn ((pa_cons ha pa_nil he).run pos pins s σ H (fun vs H1 => match vs with | [y] => QxE Q C fld y H1 | _ => False) I h) fun us s1 ⟨vs, H1, I1, r1, q1⟩ => ⟨I1.kIn, ?_⟩) he hpl
  obtain ⟨y, rfl⟩ : ∃ y, vs = [y] := by
    rcases vs with _ | ⟨y, _ | ⟨z, r⟩⟩
    · exact q1.elim
    · exact ⟨y, rfl⟩
    · exact q1.elim
  replace q1 : QxE Q C fld y H1 := q1
  obtain ⟨u, rfl, ry⟩ := vals1 r1
  show wpAny _ _ (call (.ref C) [u]) _ _ _
  have bk1 := I1.bk
  have J1 := I1
  obtain ⟨hp, g, dr, tk, os⟩ := s1
  have kk : ∀ b o, hp.get? b = some o → ((hp.push (PySem.W.kdv_tup [u])).push (PySem.HandSPX.excO C hp.objs.size)).get? b = some o := fun b o e => Heap.get?_push_of_some _ (Heap.get?_push_of_some _ e)
  have hget : ((hp.push (PySem.W.kdv_tup [u])).push (PySem.HandSPX.excO C hp.objs.size)).get? (hp.objs.size + 1) = some (PySem.HandSPX.excO C hp.objs.size) := by heap_get
  have hxb : X.base.get? (hp.objs.size + 1) = none := by
    cases z : X.base.get? (hp.objs.size + 1) with
    | none => rfl
    | some o => exact absurd (Heap.lt_size (bk1 _ _ z)) (by show ¬ (hp.objs.size + 1 < hp.objs.size); omega)
  refine wpAny_call (PySem.HandSPX.call_own F.excBase_ValueError (fun Y => PySem.HandSPX.refsVE_contains Y bm hbm) (J1.kIn _ _ hC) (PySem.W.looks_findIn J1.kIn T.ini) (fun self => PySem.W.bind_fn J1.kIn self T.ty) (by show 1 ≤ sizeLine; rw [sizeLine_eq]; decide)
    (init_run T Sh I.ok.mod hsup (fun b o e => kk b o (bk1 b o e)) (hroom.make C [u] []).depth hxb hget fun h' t' dx t1 k lt hx' hn' => ⟨rfl, ?_⟩))
  exact exv_tail J1 (fun b o hb e => k b o hb (kk b o e)) lt hx' hn' ry q1
theorem pe_exfw {n fld prm qual : Str} {st : Stmt} {C fI : Addr} {kws : List Keyword} {tl : St → Hp → (List V → Hp → Prop) → Prop} {p pos : Pos} (T : XIni X.prog X.K C fld qual st fI) (Sh : XShape st fld prm) (hk : ∀ (qual : Str) (kV doc pm ct : Value) (an : Option Addr) (cdv : Value) (cc : Addr) (u v : Value), bindArgs (PySem.W.ksFn "__init__" qual (defArgs st) (defBody st) (defScope st) .none kV doc pm an cdv ct cc) ⟨[u], [(prm, v)]⟩ = pure ([("self", u), (prm, v)] : List (Str × Value)))
    (hsup : X.mg "super" = none) (hroom : Room 1 X.A) (hg : Gl X n) (hm : X.mg n = some (.ref C)) (ha : PK X kws tl) (hdb : (n == ("__debug__" : Str)) = false := by decide) (hall : (backToKw pos (keywordEach kws X.env)).all (·.1.isSome) = true := by rfl) (hks : (backToKw pos (keywordEach kws X.env)).filterMap (·.1) = [prm] := by rfl)
    (hpl : ((backTo pos (starEach [] X.env)).any (·.1) || (backToKw pos (keywordEach kws X.env)).any (·.1.isNone)) = false := by rfl) :
    PE X (.Call (.Name n p) [] kws pos) (fun σ H Q => tl σ H fun vs H1 => ∃ y, vs = [y] ∧ QxE Q C fld y H1) := by
  refine ⟨fun pins s σ H Q I h => ?_⟩
  obtain ⟨nm, q, N, bs, bm, sn, sub, ab, col, dd, k0, k1, k2, k3, k5, hC, hbm⟩ := T.oex.cls
  refine wpAny_Call_Name_kw (ld_glob I hg hm ?_ hdb)
  refine PySem.W.callWith_KW0 (h₀ := X.base) I.ok.mod.kin T.oex.kC hall (thn (ha.run pos pins s σ H _ I h) fun us s1 ⟨vs, H1, I1, r1, q1⟩ => ⟨I1.kIn, ?_⟩) hpl
  obtain ⟨y, rfl, q1⟩ := q1
  obtain ⟨u, rfl, ry⟩ := vals1 r1
  rw [hks]
  show wpAny _ _ (call (.ref C) [] [(prm, u)]) _ _ _
  have bk1 := I1.bk
  have J1 := I1
  obtain ⟨hp, g, dr, tk, os⟩ := s1
  have kk : ∀ b o, hp.get? b = some o → ((hp.push (PySem.W.kdv_tup [])).push (PySem.HandSPX.excO C hp.objs.size)).get? b = some o := fun b o e => Heap.get?_push_of_some _ (Heap.get?_push_of_some _ e)
  have hget : ((hp.push (PySem.W.kdv_tup [])).push (PySem.HandSPX.excO C hp.objs.size)).get? (hp.objs.size + 1) = some (PySem.HandSPX.excO C hp.objs.size) := by heap_get
  have hxb : X.base.get? (hp.objs.size + 1) = none := by
    cases z : X.base.get? (hp.objs.size + 1) with
    | none => rfl
    | some o => exact absurd (Heap.lt_size (bk1 _ _ z)) (by show ¬ (hp.objs.size + 1 < hp.objs.size); omega)
  have hT : ∀ Y : String, bm.contains (.type Y) = _ := fun Y => PySem.HandSPX.refsVE_contains Y bm hbm
  have hcB : (Value.ref C :: bm).contains (.type "ValueError") = true := by rw [List.contains_cons, hT, F.excBase_ValueError.hasB, Bool.or_true]
  have hcA : (Value.ref C :: bm).contains (.type "AttributeError") = false := by rw [List.contains_cons, hT, F.excBase_ValueError.noAttr]; rfl
  have hcN : (Value.ref C :: bm).contains (.type "NameError") = false := by rw [List.contains_cons, hT, F.excBase_ValueError.noName]; rfl
  refine wpAny_call (callG F.excBase_ValueError hcB hcA hcN (J1.kIn _ _ hC) (PySem.W.looks_findIn J1.kIn T.ini) (fun self => PySem.W.bind_fn J1.kIn self T.ty) (Nat.zero_le _)
    (init_runA (args := ⟨[.ref (hp.objs.size + 1)], [(prm, u)]⟩) T Sh I.ok.mod hsup (fun b o e => kk b o (bk1 b o e)) (hroom.make C [] [(prm, u)]).depth hxb hget (fun _ _ _ _ _ _ _ _ => hk _ _ _ _ _ _ _ _ _ _) fun h' t' dx t1 k lt hx' hn' => ⟨rfl, ?_⟩))
  exact exv_tail J1 (fun b o hb e => k b o hb (kk b o e)) lt hx' hn' ry q1
theorem pe_exk {n fld prm qual : Str} {st : Stmt} {C fI : Addr} {e : Expr} {te : TE} {p pos : Pos} (T : XIniK X.prog X.K C fld qual st fI) (Sh : XShape st fld prm) (hsup : X.mg "super" = none) (hroom : Room 1 X.A) (hg : Gl X n) (hm : X.mg n = some (.ref C)) (ha : PE X e te)
    (hdb : (n == ("__debug__" : Str)) = false := by decide) (he : starEach [e] X.env = (false, eval e X.env) :: starEach [] X.env := by rfl) (hpl : (backTo pos (starEach [] X.env)).any (·.1) = false := by rfl) :
    PE X (.Call (.Name n p) [e] [] pos) (fun σ H Q => te σ H fun y H1 => QxE Q C fld y H1) := by
  refine ⟨fun pins s σ H Q I h => ?_⟩
  obtain ⟨nm, q, N, bs, bm, sn, sub, ab, col, dd, k0, k1, k2, k3, k5, hC, hbm⟩ := T.oex.cls
  refine wpAny_Call_Name_kw (ld_glob I hg hm ?_ hdb)
  refine PySem.W.callWith_K (h₀ := X.base) I.ok.mod.kin T.oex.kC (thn ((pa_cons ha pa_nil he).run pos pins s σ H (fun vs H1 => match vs with | [y] => QxE Q C fld y H1 | _ => False) I h) fun us s1 ⟨vs, H1, I1, r1, q1⟩ => ⟨I1.kIn, ?_⟩) he hpl
  obtain ⟨y, rfl⟩ : ∃ y, vs = [y] := by
    rcases vs with _ | ⟨y, _ | ⟨z, r⟩⟩
    · exact q1.elim
    · exact ⟨y, rfl⟩
    · exact q1.elim
  replace q1 : QxE Q C fld y H1 := q1
  obtain ⟨u, rfl, ry⟩ := vals1 r1
  show wpAny _ _ (call (.ref C) [u]) _ _ _
  have bk1 := I1.bk
  have J1 := I1
  obtain ⟨hp, g, dr, tk, os⟩ := s1
  have kk : ∀ b o, hp.get? b = some o → ((hp.push (PySem.W.kdv_tup [u])).push (PySem.HandSPX.excO C hp.objs.size)).get? b = some o := fun b o e => Heap.get?_push_of_some _ (Heap.get?_push_of_some _ e)
  have hget : ((hp.push (PySem.W.kdv_tup [u])).push (PySem.HandSPX.excO C hp.objs.size)).get? (hp.objs.size + 1) = some (PySem.HandSPX.excO C hp.objs.size) := by heap_get
  have hxb : X.base.get? (hp.objs.size + 1) = none := by
    cases z : X.base.get? (hp.objs.size + 1) with
    | none => rfl
    | some o => exact absurd (Heap.lt_size (bk1 _ _ z)) (by show ¬ (hp.objs.size + 1 < hp.objs.size); omega)
  refine wpAny_call (callK hbm (J1.kIn _ _ hC) (PySem.W.looks_findIn J1.kIn T.ini) (fun self => PySem.W.bind_fn J1.kIn self T.ty) (by show 1 ≤ sizeLine; rw [sizeLine_eq]; decide)
    (init_runK T Sh I.ok.mod hsup (fun b o e => kk b o (bk1 b o e)) (hroom.make C [u] []).depth hxb hget fun h' t' dx t1 k lt hx' hn' => ⟨rfl, ?_⟩))
  exact exv_tail J1 (fun b o hb e => k b o hb (kk b o e)) lt hx' hn' ry q1
theorem pe_exkw {n fld prm qual : Str} {st : Stmt} {C fI : Addr} {kws : List Keyword} {tl : St → Hp → (List V → Hp → Prop) → Prop} {p pos : Pos} (T : XIniK X.prog X.K C fld qual st fI) (Sh : XShape st fld prm) (hk : ∀ (qual : Str) (kV doc pm ct : Value) (an : Option Addr) (cdv : Value) (cc : Addr) (u v : Value), bindArgs (PySem.W.ksFn "__init__" qual (defArgs st) (defBody st) (defScope st) .none kV doc pm an cdv ct cc) ⟨[u], [(prm, v)]⟩ = pure ([("self", u), (prm, v)] : List (Str × Value)))
    (hsup : X.mg "super" = none) (hroom : Room 1 X.A) (hg : Gl X n) (hm : X.mg n = some (.ref C)) (ha : PK X kws tl) (hdb : (n == ("__debug__" : Str)) = false := by decide) (hall : (backToKw pos (keywordEach kws X.env)).all (·.1.isSome) = true := by rfl) (hks : (backToKw pos (keywordEach kws X.env)).filterMap (·.1) = [prm] := by rfl)
    (hpl : ((backTo pos (starEach [] X.env)).any (·.1) || (backToKw pos (keywordEach kws X.env)).any (·.1.isNone)) = false := by rfl) :
    PE X (.Call (.Name n p) [] kws pos) (fun σ H Q => tl σ H fun vs H1 => ∃ y, vs = [y] ∧ QxE Q C fld y H1) := by
  refine ⟨fun pins s σ H Q I h => ?_⟩
  obtain ⟨nm, q, N, bs, bm, sn, sub, ab, col, dd, k0, k1, k2, k3, k5, hC, hbm⟩ := T.oex.cls
  refine wpAny_Call_Name_kw (ld_glob I hg hm ?_ hdb)
  refine PySem.W.callWith_KW0 (h₀ := X.base) I.ok.mod.kin T.oex.kC hall (thn (ha.run pos pins s σ H _ I h) fun us s1 ⟨vs, H1, I1, r1, q1⟩ => ⟨I1.kIn, ?_⟩) hpl
  obtain ⟨y, rfl, q1⟩ := q1
  obtain ⟨u, rfl, ry⟩ := vals1 r1
  rw [hks]
  show wpAny _ _ (call (.ref C) [] [(prm, u)]) _ _ _
  have bk1 := I1.bk
  have J1 := I1
  obtain ⟨hp, g, dr, tk, os⟩ := s1
  have kk : ∀ b o, hp.get? b = some o → ((hp.push (PySem.W.kdv_tup [])).push (PySem.HandSPX.excO C hp.objs.size)).get? b = some o := fun b o e => Heap.get?_push_of_some _ (Heap.get?_push_of_some _ e)
  have hget : ((hp.push (PySem.W.kdv_tup [])).push (PySem.HandSPX.excO C hp.objs.size)).get? (hp.objs.size + 1) = some (PySem.HandSPX.excO C hp.objs.size) := by heap_get
  have hxb : X.base.get? (hp.objs.size + 1) = none := by
    cases z : X.base.get? (hp.objs.size + 1) with
    | none => rfl
    | some o => exact absurd (Heap.lt_size (bk1 _ _ z)) (by show ¬ (hp.objs.size + 1 < hp.objs.size); omega)
  have hcB : (Value.ref C :: bm).contains (.type "LookupError") = true := by rw [hbm, List.contains_cons, show keTail.contains (.type "LookupError") = true by decide +kernel, Bool.or_true]
  have hcA : (Value.ref C :: bm).contains (.type "AttributeError") = false := by rw [hbm, List.contains_cons, show keTail.contains (.type "AttributeError") = false by decide +kernel]; rfl
  have hcN : (Value.ref C :: bm).contains (.type "NameError") = false := by rw [hbm, List.contains_cons, show keTail.contains (.type "NameError") = false by decide +kernel]; rfl
  refine wpAny_call (callG F.excBase_LookupError hcB hcA hcN (J1.kIn _ _ hC) (PySem.W.looks_findIn J1.kIn T.ini) (fun self => PySem.W.bind_fn J1.kIn self T.ty) (Nat.zero_le _)
    (init_runKA (args := ⟨[.ref (hp.objs.size + 1)], [(prm, u)]⟩) T Sh I.ok.mod hsup (fun b o e => kk b o (bk1 b o e)) (hroom.make C [] [(prm, u)]).depth hxb hget (fun _ _ _ _ _ _ _ _ => hk _ _ _ _ _ _ _ _ _ _) fun h' t' dx t1 k lt hx' hn' => ⟨rfl, ?_⟩))
  exact exv_tail J1 (fun b o hb e => k b o hb (kk b o e)) lt hx' hn' ry q1
end
end Fb
end

section
set_option Elab.async false
set_option linter.all false
set_option maxRecDepth 100000
set_option maxHeartbeats 4000000
/-! Errors held as values, and a list that they and others share: rules. -/
namespace Fb
open PySem PySem.Spec PyProof.Rows L2
/-! ### a list that is shared: its slot knows where it stands -/
def slotC : Option (Option (Bool × D)) → Option (Addr × List D)
  | some (some (true, .cel x ds)) => some (x, ds)
  | _ => none
theorem slotC_inv {o : Option (Option (Bool × D))} {q : Addr × List D} (h : slotC o = some q) : o = some (some (true, .cel q.1 q.2)) := by
  unfold slotC at h
  split at h
  · cases h; rfl
  · cases h
/-- where it stands, for what holds it too -/
def mPtr (i : Nat) : Ro → W Ex D := fun ρ => match ρ[i]? with
  | some (some (.cel x _)) => W.ret (.raw x)
  | some (some d) => W.ret d
  | _ => W.fail
/-- slot i read where slot j may know the list that stands there -/
def mAli (i j : Nat) : Ro → W Ex D := fun ρ => match ρ[i]? with
  | some (some (.cel _ ds)) => W.ret (.lst ds)
  | some (some (.raw x)) => (match ρ[j]? with
    | some (some (.cel y ds)) => if x = y then W.ret (.lst ds) else W.fail
    | _ => W.fail)
  | some (some d) => W.ret d
  | _ => W.fail
section
variable {G : Wd} {X : Cx} {Wx : WX}
theorem mPtr_inv {i : Nat} {ρ : Ro} {Q : D → Prop} {E : Ex → Prop} (h : mPtr i ρ Q E) : (∃ x ds, ρ[i]? = some (some (.cel x ds)) ∧ Q (.raw x)) ∨ ∃ d, ρ[i]? = some (some d) ∧ Q d := by
  unfold mPtr at h
  rcases e : ρ[i]? with _ | _ | d
  · rw [e] at h; exact h.elim
  · rw [e] at h; exact h.elim
  · rw [e] at h
    cases d <;> first | exact .inr ⟨_, rfl, h⟩ | exact .inl ⟨_, _, rfl, h⟩
theorem mPtr_mono (i : Nat) (ρ : Ro) : W.Mono (mPtr i ρ) := ⟨fun hq he h => by
  unfold mPtr at h ⊢
  rcases e : ρ[i]? with _ | _ | d
  · rw [e] at h; exact h.elim
  · rw [e] at h; exact h.elim
  · rw [e] at h
    cases d <;> exact hq _ h⟩
theorem mAli_inv {i j : Nat} {ρ : Ro} {Q : D → Prop} {E : Ex → Prop} (h : mAli i j ρ Q E) : (∃ y ds, ρ[i]? = some (some (.cel y ds)) ∧ Q (.lst ds)) ∨ (∃ y ds, ρ[i]? = some (some (.raw y)) ∧ ρ[j]? = some (some (.cel y ds)) ∧ Q (.lst ds)) ∨ ∃ d, ρ[i]? = some (some d) ∧ Q d := by
  unfold mAli at h
  rcases e : ρ[i]? with _ | _ | d
  · rw [e] at h; exact h.elim
  · rw [e] at h; exact h.elim
  · rw [e] at h
    cases d with
    | cel y ds => exact .inl ⟨_, _, rfl, h⟩
    | raw y =>
      rcases e2 : ρ[j]? with _ | _ | d2
      · rw [e2] at h; exact h.elim
      · rw [e2] at h; exact h.elim
      · rw [e2] at h
        cases d2 with
        | cel z ds =>
          obtain ⟨hz, h2⟩ := ite_ret (show (if y = z then W.ret (D.lst ds) else W.fail : W Ex D) Q E from h)
          exact .inr (.inl ⟨_, _, rfl, by rw [hz], h2⟩)
        | _ => exact h.elim
    | _ => exact .inr (.inr ⟨_, rfl, h⟩)
theorem mAli_mono (i j : Nat) (ρ : Ro) : W.Mono (mAli i j ρ) := ⟨fun {Q Q' E E'} hq he h => by
  have k := mAli_inv h
  unfold mAli
  unfold mAli at h
  rcases e : ρ[i]? with _ | _ | d
  · rw [e] at h; exact h.elim
  · rw [e] at h; exact h.elim
  · rw [e] at h
    cases d with
    | raw y =>
      rcases e2 : ρ[j]? with _ | _ | d2
      · rw [e2] at h; exact h.elim
      · rw [e2] at h; exact h.elim
      · rw [e2] at h
        cases d2 with
        | cel z ds => exact (ite_mono W.Mono.ret W.Mono.fail).run hq he (show (if y = z then W.ret (D.lst ds) else W.fail : W Ex D) Q E from h)
        | _ => exact h.elim
    | _ => exact hq _ h⟩
theorem de_ptr {x : Str} {p : Pos} {i : Nat} (hv : PE X (.Name x p) (tVar i)) : DE G X Wx (.Name x p) (mPtr i) := by
  refine DE.imp (mPtr_mono i) hv fun N ρ σ H Q r q => ?_
  rcases mPtr_inv q with ⟨y, ds, e, q⟩ | ⟨d, e, q⟩
  · obtain ⟨v, ev, hv, _⟩ := r.get i _ e
    exact ⟨v, ev, q v H (Same.refl H) hv⟩
  · obtain ⟨v, ev, hv⟩ := r.get i _ e
    exact ⟨v, ev, q v H (Same.refl H) (hv.mono (fun a n _ => .inl n) (Le.refl H))⟩
theorem de_ali {x : Str} {p : Pos} {i j : Nat} (hv : PE X (.Name x p) (tVar i)) : DE G X Wx (.Name x p) (mAli i j) := by
  refine DE.imp (mAli_mono i j) hv fun N ρ σ H Q r q => ?_
  rcases mAli_inv q with ⟨y, ds, e, q⟩ | ⟨y, ds, e, e2, q⟩ | ⟨d, e, q⟩
  · obtain ⟨v, ev, hv, n, vs, h1, h2⟩ := r.get i _ e
    exact ⟨v, ev, q v H (Same.refl H) ⟨y, vs, hv, .inl n, h1, h2.mono (fun a n _ => .inl n) (Le.refl H)⟩⟩
  · obtain ⟨v, ev, hv⟩ := r.get i _ e
    obtain ⟨w, ew, hw, n, vs, h1, h2⟩ := r.get j _ e2
    exact ⟨v, ev, q v H (Same.refl H) ⟨y, vs, hv, .inl n, h1, h2.mono (fun a n _ => .inl n) (Le.refl H)⟩⟩
  · obtain ⟨v, ev, hv⟩ := r.get i _ e
    exact ⟨v, ev, q v H (Same.refl H) (hv.mono (fun a n _ => .inl n) (Le.refl H))⟩
end
/-- what has been put into slot i is shared from now on -/
def celQ (i : Nat) (Q : Fl × En → Prop) (p : Fl × En) : Prop := match p.1, slotL p.2[i]? with
  | .nx, some ds => ∀ x : Addr, Q (.nx, p.2.set i (some (true, .cel x ds)))
  | _, _ => Q p
def mCelS (i : Nat) (b : En → WS) : En → WS := fun ρ Q E => b ρ (celQ i Q) E
theorem celQ_mono {i : Nat} {Q Q' : Fl × En → Prop} (h : ∀ p, Q p → Q' p) {p : Fl × En} (z : celQ i Q p) : celQ i Q' p := by
  unfold celQ at z ⊢
  split <;> rename_i e1 e2
  · rw [e1, e2] at z
    exact fun x => h _ (z x)
  · split at z
    · rename_i f1 f2
      exact absurd f2 (e2 _ f1)
    · exact h _ z
theorem mCelS_mono {i : Nat} {b : En → WS} (h : ∀ ρ, W.Mono (b ρ)) (ρ : En) : W.Mono (mCelS i b ρ) := ⟨fun hq he z => (h ρ).run (fun p => celQ_mono hq) he z⟩
section
variable {G : Wd} {H0 H : Hp} {N0 : Addr → Prop} {σ : Fb.St} {ρ : En}
theorem srel_cel {i : Nat} {ds : List D} (r : SRel G H0 N0 σ H ρ) (e : ρ[i]? = some (some (true, .lst ds))) : ∃ x, SRel G H0 N0 σ H (ρ.set i (some (true, .cel x ds))) := by
  obtain ⟨S, o⟩ := r.own
  obtain ⟨a, ea, eS, w⟩ := o.own i _ e
  have hi : i < ρ.length := (List.getElem?_eq_some_iff.mp e).1
  have at_ne : ∀ {j : Nat} {b : Bool} {d : D}, (ρ.set i (some (true, .cel a ds)))[j]? = some (some (b, d)) → (j = i ∧ b = true ∧ d = .cel a ds) ∨ (j ≠ i ∧ ρ[j]? = some (some (b, d))) := fun {j b d} h => by
    by_cases hj : j = i
    · subst hj
      rw [List.getElem?_set_self hi] at h
      cases h
      exact .inl ⟨rfl, rfl, rfl⟩
    · rw [List.getElem?_set_ne (Ne.symm hj)] at h
      exact .inr ⟨hj, h⟩
  refine ⟨a, r.same, by rw [List.length_set]; exact r.len, S, o.new, o.kind, o.inj, fun j d h => ?_, fun j d h => ?_, fun j d l h hn => ?_⟩
  · rcases at_ne h with ⟨_, z, _⟩ | ⟨_, h⟩
    · cases z
    · exact o.shr j d h
  · rcases at_ne h with ⟨rfl, _, rfl⟩ | ⟨_, h⟩
    · exact ⟨a, ea, eS, rfl, w⟩
    · exact o.own j d h
  · rcases at_ne h with ⟨rfl, _, rfl⟩ | ⟨_, h⟩
    · cases hn
    · exact o.nst j d l h hn
end
section
variable {G : Wd} {X : Cx} {Wx : WX}
theorem ds_celS {i : Nat} {st : Stmt} {b : En → WS} (h : DS G X Wx st b) : DS G X Wx st (mCelS i b) := by
  refine DS.imp (fun ρ => mCelS_mono h.mono ρ) h.ps fun H0 N0 ρ σ H D' r q => ?_
  refine ⟨H0, N0, ρ, r, (h.mono ρ).run (fun p z => ?_) (fun _ z => z) q⟩
  obtain ⟨f, ρ'⟩ := p
  unfold celQ at z
  split at z
  · rename_i ds e1 e2
    have e1 : f = .nx := e1
    subst e1
    intro σ' H' r'
    obtain ⟨x, r2⟩ := srel_cel r' (slotL_inv e2)
    exact z x σ' H' r2
  · exact z
/-- x.append(e), the list shared -/
def mAppC (fz : List Nat) (i : Nat) (m : Ro → W Ex D) : En → WS := fun ρ => W.got (slotC ρ[i]?) fun c => W.bind (up ρ (m (see fz ρ))) fun d => W.got (tak fz i d ρ) fun ρ' => if c.2.length < sizeLine then W.ret (.nx, ρ'.set i (some (true, .cel c.1 (c.2 ++ [d])))) else W.fail
theorem ds_appendC {i : Nat} {x : Str} {e : Expr} {m : Ro → W Ex D} {p apos cpos pos : Pos} (fz : List Nat) (hv : PE X (.Name x p) (tVar i)) (he : DE G X Wx e m)
    (hs : swapsWith (.Call (.Attribute (.Name x p) "append" apos) [e] [] cpos) none pos.line X.env = pure false := by rfl)
    (hbase : attributeBase (.Name x p) "append" X.env (eval (.Name x p) X.env) = eval (.Name x p) X.env := by rfl)
    (hfew : ((backTo cpos (starEach [e] X.env)).all (fun x => !x.1) && (backToKw cpos (keywordEach [] X.env)).all (fun x => x.1.isSome)
      && decide (([e] : List Expr).length + ([] : List Keyword).length + (if ([] : List Keyword).isEmpty then 0 else 1) < 30)) = true := by rfl)
    (hline : (apos.endLine == cpos.line) = true := by rfl) (hst : starEach [e] X.env = (false, eval e X.env) :: starEach [] X.env := by rfl) (hplain : (backTo cpos (starEach [] X.env)).any (·.1) = false := by rfl) :
    DS G X Wx (.Expr (.Call (.Attribute (.Name x p) "append" apos) [e] [] cpos) pos) (mAppC fz i m) := by
  refine DS.imp (fun ρ => got_mono fun ds => (Mono.up (he.mono _)).bind fun d => got_mono fun _ => ite_mono W.Mono.ret W.Mono.fail) (ps_expr (pe_bm PySem.F.plainAttrs_list PySem.F.slot_list_append PySem.F.type_list_append mt_append hv (pa_cons he.pe pa_nil hst) hbase hfew hline hst hplain) hs) fun H0 N0 ρ σ H D' r q => ?_
  obtain ⟨S, o⟩ := r.own
  obtain ⟨⟨y, ds⟩, hd, q⟩ := got_inv q
  have hd := slotC_inv hd
  obtain ⟨a, ea, eS, ey, vs, hvs, _⟩ := o.own i _ hd
  have ey : a = y := ey
  subst ey
  refine ⟨.ref a, ea, .inl ⟨rfl, vs, .of hvs⟩, he.inF r.same r.len o fz q fun d v H1 z s1 r1 => ?_⟩
  obtain ⟨ρ', ht, z⟩ := got_inv z
  obtain ⟨hz, z⟩ := ite_ret z
  obtain ⟨S', o', hl', hi', rv⟩ := o.take r.same s1 ht r1
  have hd' : ρ'[i]? = some (some (true, .cel a ds)) := hi'.trans hd
  obtain ⟨b, eb, eS', _, ws, hws, rs⟩ := o'.own i _ hd'
  rw [ea] at eb
  cases eb
  have hvw : ws = vs := by rw [s1.at hvs] at hws; cases hws; rfl
  subst hvw
  refine ⟨a, ws, v, rfl, rfl, hws, by rw [rs.length]; exact hz, ?_⟩
  obtain ⟨u, hu, ku⟩ := o'.kind _ a eS'
  have lx : LeX G (Out N0 H0 S') H1 (upd H1 a (.lst (ws ++ [v]))) := LeX.upd hu ku (Out.notS eS')
  exact z _ _ ⟨SRel.upd (r.same.trans s1) o' eS', by rw [List.length_set, hl']; exact r.len, S', o'.mut hd' eS' ⟨rfl, _, upd_same, (rs.app (.one rv)).monoX (fun _ n _ => n) lx⟩⟩
end
/-! ### errors as values -/
def mExv (c f : Str) (m : Ro → W Ex D) : Ro → W Ex D := fun ρ => W.bind (m ρ) fun d => W.all (fun _ : Addr × Addr => True) fun p => W.ret (.erv p.1 c (some p.2) [(f, d)])
def mExvK (c f : Str) (a : Ro → W Ex (List D)) : Ro → W Ex D := fun ρ => W.bind (a ρ) fun ds => match ds with
  | [d] => W.all (fun _ : Addr × Addr => True) fun p => W.ret (.erv p.1 c (some p.2) [(f, d)])
  | _ => W.fail
def mExv0 (c : Str) : Ro → W Ex D := fun ρ => W.all (fun _ : Addr => True) fun x => W.ret (.erv x c none [])
section
variable {P : Program} {w : World} {G : Wd} {base : Heap} {k : Nat} {X : Cx} {Wx : WX}
theorem qxe_of {N : Addr → Prop} {H H1 : Hp} {Q : VK} {E : Ex → Prop} {C : Addr} {n f : Str} {d : D} {v : V} (gC : G.mg n = some (.ref C)) (s : Same G H H1) (rep : Rep G (Fr N H) H1 d v)
    (z : (W.all (fun _ : Addr × Addr => True) fun p => W.ret (D.erv p.1 n (some p.2) [(f, d)]) : W Ex D) (PoE G N H Q) E) : QxE Q C f v H1 := fun dx x hd hx ne => by
  have s1 : Same G H1 (upd H1 dx (.xd [(f, v)])) := .of fun b o e => by rw [upd_ne (ne_of_none e hd)]; exact e
  have hx2 : upd H1 dx (.xd [(f, v)]) x = none := by rw [upd_ne ne]; exact hx
  have s2 : Same G (upd H1 dx (.xd [(f, v)])) (upd (upd H1 dx (.xd [(f, v)])) x (.ext (excAt (.ref C) (some dx) x))) := .of fun b o e => by rw [upd_ne (ne_of_none e hx2)]; exact e
  refine z (x, dx) trivial (.ref x) _ (s.trans (s1.trans s2)) ⟨rfl, ⟨C, gC, upd_same⟩, fun d' e => ?_⟩
  cases e
  exact ⟨[(f, v)], by rw [upd_ne (Ne.symm ne)]; exact upd_same, ⟨v, [], rfl, rep.same (s1.trans s2), rfl⟩⟩
theorem all_mono2 {c f : Str} {d : D} : W.Mono (W.all (fun _ : Addr × Addr => True) fun p => W.ret (D.erv p.1 c (some p.2) [(f, d)]) : W Ex D) := W.Mono.all fun _ => W.Mono.ret
theorem de_exf {n f prm : Str} {st : Stmt} {e : Expr} {m : Ro → W Ex D} {p pos : Pos} (Z : Cz P w G base k X Wx) (F : Exc1 P G n f prm st) (hk : 1 ≤ k) (hsup : G.mg "super" = none) (he : DE G X Wx e m) (hg : Gl X n := by rfl) (hdb : (n == ("__debug__" : Str)) = false := by decide)
    (hst : starEach [e] X.env = (false, eval e X.env) :: starEach [] X.env := by rfl) : DE G X Wx (.Call (.Name n p) [e] [] pos) (mExv n f m) := by
  obtain ⟨C, fI, qual, gC, T, Sh⟩ := F.ex
  obtain ⟨rfl, rfl, hK, hmg, rfl, hr, hgd, tk⟩ := Z
  rw [← hK] at T
  refine DE.imp (fun ρ => (he.mono ρ).bind fun _ => all_mono2) (pe_exf T Sh (by rw [hmg]; exact hsup) (hr.mono hk) hg (by rw [hmg]; exact gC) he.pe hdb hst) fun N ρ σ H Q r q => ?_
  exact he.go r q (fun x z => z) fun d v H1 z s rep rr => qxe_of gC s rep z
theorem de_exfw {n f prm : Str} {st : Stmt} {kws : List Keyword} {a : Ro → W Ex (List D)} {p pos : Pos} (Z : Cz P w G base k X Wx) (F : Exc1 P G n f prm st) (hk1 : ∀ (qual : Str) (kV doc pm ct : Value) (an : Option Addr) (cdv : Value) (cc : Addr) (u v : Value), bindArgs (PySem.W.ksFn "__init__" qual (defArgs st) (defBody st) (defScope st) .none kV doc pm an cdv ct cc) ⟨[u], [(prm, v)]⟩ = pure ([("self", u), (prm, v)] : List (Str × Value)))
    (hk : 1 ≤ k) (hsup : G.mg "super" = none) (ha : DK G X Wx kws a) (hg : Gl X n := by rfl) (hdb : (n == ("__debug__" : Str)) = false := by decide) (hall : (backToKw pos (keywordEach kws X.env)).all (·.1.isSome) = true := by rfl) (hks : (backToKw pos (keywordEach kws X.env)).filterMap (·.1) = [prm] := by rfl)
    (hpl : ((backTo pos (starEach [] X.env)).any (·.1) || (backToKw pos (keywordEach kws X.env)).any (·.1.isNone)) = false := by rfl) : DE G X Wx (.Call (.Name n p) [] kws pos) (mExvK n f a) := by
  obtain ⟨C, fI, qual, gC, T, Sh⟩ := F.ex
  obtain ⟨rfl, rfl, hK, hmg, rfl, hr, hgd, tk⟩ := Z
  rw [← hK] at T
  refine DE.imp (fun ρ => (ha.mono ρ).bind fun ds => by split <;> first | exact all_mono2 | exact W.Mono.fail) (pe_exfw T Sh hk1 (by rw [hmg]; exact hsup) (hr.mono hk) hg (by rw [hmg]; exact gC) ha.pk hdb hall hks hpl) fun N ρ σ H Q r q => ?_
  refine ⟨N, ρ, r, (ha.mono ρ).run (fun ds z vs H1 s1 r1 => ?_) (fun x z => z) q⟩
  rcases ds with _ | ⟨d, _ | ⟨d2, ds⟩⟩
  · exact z.elim
  · obtain ⟨v, ws, rfl, rep, hw⟩ := r1
    obtain rfl : ws = [] := hw
    exact ⟨v, rfl, qxe_of gC s1 rep z⟩
  · exact z.elim
theorem de_exk {n f prm : Str} {st : Stmt} {e : Expr} {m : Ro → W Ex D} {p pos : Pos} (Z : Cz P w G base k X Wx) (F : ExcK P G n f prm st) (hk : 1 ≤ k) (hsup : G.mg "super" = none) (he : DE G X Wx e m) (hg : Gl X n := by rfl) (hdb : (n == ("__debug__" : Str)) = false := by decide)
    (hst : starEach [e] X.env = (false, eval e X.env) :: starEach [] X.env := by rfl) : DE G X Wx (.Call (.Name n p) [e] [] pos) (mExv n f m) := by
  obtain ⟨C, fI, qual, gC, T, Sh⟩ := F.ex
  obtain ⟨rfl, rfl, hK, hmg, rfl, hr, hgd, tk⟩ := Z
  rw [← hK] at T
  refine DE.imp (fun ρ => (he.mono ρ).bind fun _ => all_mono2) (pe_exk T Sh (by rw [hmg]; exact hsup) (hr.mono hk) hg (by rw [hmg]; exact gC) he.pe hdb hst) fun N ρ σ H Q r q => ?_
  exact he.go r q (fun x z => z) fun d v H1 z s rep rr => qxe_of gC s rep z
theorem de_exkw {n f prm : Str} {st : Stmt} {kws : List Keyword} {a : Ro → W Ex (List D)} {p pos : Pos} (Z : Cz P w G base k X Wx) (F : ExcK P G n f prm st) (hk1 : ∀ (qual : Str) (kV doc pm ct : Value) (an : Option Addr) (cdv : Value) (cc : Addr) (u v : Value), bindArgs (PySem.W.ksFn "__init__" qual (defArgs st) (defBody st) (defScope st) .none kV doc pm an cdv ct cc) ⟨[u], [(prm, v)]⟩ = pure ([("self", u), (prm, v)] : List (Str × Value)))
    (hk : 1 ≤ k) (hsup : G.mg "super" = none) (ha : DK G X Wx kws a) (hg : Gl X n := by rfl) (hdb : (n == ("__debug__" : Str)) = false := by decide) (hall : (backToKw pos (keywordEach kws X.env)).all (·.1.isSome) = true := by rfl) (hks : (backToKw pos (keywordEach kws X.env)).filterMap (·.1) = [prm] := by rfl)
    (hpl : ((backTo pos (starEach [] X.env)).any (·.1) || (backToKw pos (keywordEach kws X.env)).any (·.1.isNone)) = false := by rfl) : DE G X Wx (.Call (.Name n p) [] kws pos) (mExvK n f a) := by
  obtain ⟨C, fI, qual, gC, T, Sh⟩ := F.ex
  obtain ⟨rfl, rfl, hK, hmg, rfl, hr, hgd, tk⟩ := Z
  rw [← hK] at T
  refine DE.imp (fun ρ => (ha.mono ρ).bind fun ds => by split <;> first | exact all_mono2 | exact W.Mono.fail) (pe_exkw T Sh hk1 (by rw [hmg]; exact hsup) (hr.mono hk) hg (by rw [hmg]; exact gC) ha.pk hdb hall hks hpl) fun N ρ σ H Q r q => ?_
  refine ⟨N, ρ, r, (ha.mono ρ).run (fun ds z vs H1 s1 r1 => ?_) (fun x z => z) q⟩
  rcases ds with _ | ⟨d, _ | ⟨d2, ds⟩⟩
  · exact z.elim
  · obtain ⟨v, ws, rfl, rep, hw⟩ := r1
    obtain rfl : ws = [] := hw
    exact ⟨v, rfl, qxe_of gC s1 rep z⟩
  · exact z.elim
/-- C(), a class without an own __init__ -/
theorem pe_exv0 {x : Str} {C : Addr} {bmB : List Value} {B newId initId : String} {p pos : Pos} (F : ExcBaseFacts B newId initId bmB) (q : PySem.W.excIn X.K C bmB newId = true) (gC : X.mg x = some (.ref C)) (kC : PySem.W.keepIn X.K (.ref C) = true) (hg : Gl X x)
    (hdb : (x == ("__debug__" : Str)) = false := by decide) : PE X (.Call (.Name x p) [] [] pos) (fun _ H Q => ∀ a, H a = none → Q (.ref a) (upd H a (.ext (excAt (.ref C) none a)))) := by
  refine ⟨fun pins s σ H Q I h => ?_⟩
  refine wpAny_Call_Name_kw (ld_glob I hg gC ?_ hdb)
  refine PySem.W.callWith_K0 I.kIn kC ?_
  obtain ⟨bm, N, nm, qn, bs, hdct, sn, sub, ab, col, dd, k0, k1, k2, k3, k5, mN, hC, hN, hni, T⟩ := exc_obj I.kIn q
  refine wpAny_call_exc_subT F T hC hN hni (fun h' e hm => ?_) (Nat.zero_le _)
  obtain ⟨t, he, _, _⟩ := hm.there
  have hn := I.hok.gone hm.new
  exact ⟨V.ref e, _, I.laidN (t' := s.toks) hm.keeps hm.new hn (objOk_exv he ⟨rfl, rfl⟩ rfl), rfl, h e hn⟩
theorem de_ex0 {n : Str} {p pos : Pos} (Z : Cz P w G base k X Wx) (F : Exc0 G n) (hg : Gl X n := by rfl) (hdb : (n == ("__debug__" : Str)) = false := by decide) : DE G X Wx (.Call (.Name n p) [] [] pos) (mExv0 n) := by
  obtain ⟨C, gC, q, kC, hs, ht⟩ := F.ex
  obtain ⟨rfl, rfl, hK, hmg, rfl, hr, hgd, tk⟩ := Z
  rw [← hK] at q kC
  refine DE.imp (fun ρ => W.Mono.all fun _ => W.Mono.ret) (pe_exv0 (PySem.F.excBase_ValueError) q (by rw [hmg]; exact gC) kC hg hdb) fun N ρ σ H Q r q => fun a hn => ?_
  have s1 : Same G H (upd H a (.ext (excAt (.ref C) none a))) := .of fun b o e => by rw [upd_ne (ne_of_none e hn)]; exact e
  exact q a trivial (.ref a) _ s1 ⟨rfl, ⟨C, gC, upd_same⟩, fun d e => by cases e⟩
/-- e.f, an error held as a value -/
def mXe (cs : List Str) (f : Str) (m : Ro → W Ex D) : Ro → W Ex D := fun ρ => W.bind (m ρ) fun x => match x with
  | .erv _ c dd fs => if c ∈ cs ∧ dd.isSome = true then W.got (fs.lookup f) fun y => W.ret y else W.fail
  | _ => W.fail
theorem pe_xe {e : Expr} {te : TE} {pos : Pos} {n : Str} (he : PE X e te) (hb : attributeBase e n X.env (eval e X.env) = eval e X.env := by rfl) :
    PE X (.Attribute e n pos) (fun σ H Q => te σ H fun x H1 => ∃ a C dd fs v, x = .ref a ∧ XfC X.K C ∧ PySem.W.findIn X.K (.ref C) n = some none ∧ H1 a = some (.ext (excAt (.ref C) (some dd) a)) ∧ H1 dd = some (.xd fs) ∧ fs.lookup n = some v ∧ Q v H1) := by
  refine ⟨fun pins s σ H Q I h => ?_⟩
  refine attr_of hb (thn (he.run pins s σ H _ I h) fun u s1 hh => ?_)
  obtain ⟨x, H1, I1, rx, a, C, dd, fs, v, ex, T, hno, ha0, ea, l, q⟩ := hh
  subst ex
  obtain rfl : u = Value.ref a := rx
  obtain ⟨⟨oe, vs, ha, hz, hd⟩, _, _⟩ := I1.hok a _ ha0
  have hx : ObjOk X.prog X.w H1 s1.heap dd (.xd fs) := I1.hok dd _ ea
  obtain ⟨mA, hns, hr⟩ := hx
  obtain ⟨od, ho, hl⟩ := lookIn_ns hns
  obtain ⟨u, hu, ru⟩ := RelO.some_of (v := v) (o := mA n) (by rw [← l]; exact hr n)
  have J : PySem.W.InstAt s1.heap a oe C (some od) := ⟨ha, hz.1, by unfold PySem.W.notCls; rw [hd] <;> rfl, by rw [hz.2]; exact ho⟩
  exact HandSPX.exc_get I1.kIn J T.ga T.gg T.exC (PySem.W.findObj_own T.hdC hno rfl (by rw [hl, hu])) (handed_of ru) ⟨v, H1, I1.tok _, ru, q⟩
theorem de_xe {cs : List Str} {f : Str} {e : Expr} {m : Ro → W Ex D} {pos : Pos} (hK : X.K = G.K) (T : ∀ c ∈ cs, ∃ C, G.mg c = some (.ref C) ∧ XCat G c C ∧ PySem.W.findIn G.K (.ref C) f = some none)
    (he : DE G X Wx e m) (hb : attributeBase e f X.env (eval e X.env) = eval e X.env := by rfl) : DE G X Wx (.Attribute e f pos) (mXe cs f m) := by
  refine DE.imp (fun ρ => (he.mono ρ).bind fun x => ?_) (pe_xe he.pe hb) fun N ρ σ H Q r q => ?_
  · split
    · exact ite_mono (got_mono fun _ => W.Mono.ret) W.Mono.fail
    · exact W.Mono.fail
  · refine he.go r q (fun x z => z) fun d v H1 z s rep rr => ?_
    revert z rep
    show (match d with | .erv _ c dd fs => if c ∈ cs ∧ dd.isSome = true then W.got (fs.lookup f) fun y => W.ret y else W.fail | _ => W.fail : W Ex D) (PoE G N H Q) (PoX G N Wx H σ) → _
    split
    · rename_i x c dd fs
      intro z rep
      obtain ⟨⟨hc, hs⟩, z2⟩ := ite_ret z
      obtain ⟨y, ey, z3⟩ := got_inv z2
      obtain ⟨d0, ed⟩ := Option.isSome_iff_exists.mp hs
      subst ed
      obtain ⟨rfl, ⟨C, gC, hx⟩, hf⟩ := rep
      obtain ⟨C', gC', TX, hno⟩ := T c hc
      rw [gC] at gC'
      cases gC'
      obtain ⟨gs, hgs, rf⟩ := hf d0 rfl
      obtain ⟨w, ew, rw'⟩ := lookF f rf ey
      exact ⟨x, C, d0, gs, w, rfl, hK ▸ TX.xf, hK ▸ hno, hx, hgs, ew, z3 w H1 s rw'⟩
    · exact fun z => z.elim
/-- isinstance(e, C), e an error held as a value -/
def isV (M : List (Str × List (Str × Bool) × List (String × Bool))) (x c : D) : Option D := match x with
  | .erv _ n _ _ => (M.lookup n).bind fun t => (match c with
    | .cls m => (t.1.lookup m).map .bl
    | .ty u => (t.2.lookup u).map .bl
    | _ => none)
  | _ => none
def gIsV (M : List (Str × List (Str × Bool) × List (String × Bool))) : List D → Rt := g2 (isV M)
structure IsvT (G : Wd) (M : List (Str × List (Str × Bool) × List (String × Bool))) : Prop where
  ex : ∀ n t, M.lookup n = some t → ∃ C, G.mg n = some (.ref C) ∧ XCat G n C ∧ (∀ m b, t.1.lookup m = some b → ∃ D, G.mg m = some (.ref D) ∧ PySem.W.kitOne G.K (.ref C) (.ref D) = some b) ∧ (∀ u b, t.2.lookup u = some b → PySem.W.kitOne G.K (.ref C) (.type u) = some b)
theorem isv_nil : IsvT G [] := ⟨fun n t e => by simp at e⟩
theorem isv_cons {n : Str} {C : Addr} {tb : List (Str × Bool)} {ty : List (String × Bool)} {M : List (Str × List (Str × Bool) × List (String × Bool))} (gC : G.mg n = some (.ref C)) (T : XCat G n C) (h1 : ∀ m b, tb.lookup m = some b → ∃ D : Addr, G.mg m = some (.ref D) ∧ PySem.W.kitOne G.K (.ref C) (.ref D) = some b)
    (h2 : ∀ u b, ty.lookup u = some b → PySem.W.kitOne G.K (.ref C) (.type u) = some b) (h : IsvT G M) : IsvT G ((n, tb, ty) :: M) := ⟨fun m t e => by
  rw [List.lookup_cons] at e
  cases c : (m == n) with
  | true =>
    rw [c] at e
    cases e
    rw [show m = n by simpa using c]
    exact ⟨C, gC, T, h1, h2⟩
  | false => rw [c] at e; exact h.ex m t e⟩
theorem ist_cons {K : PySem.W.Frag} {C : Addr} {n : String} {v : Bool} {M : List (String × Bool)} (h2 : PySem.W.kitOne K (.ref C) (.type n) = some v) (h : ∀ (t : String) (b : Bool), M.lookup t = some b → PySem.W.kitOne K (.ref C) (.type t) = some b) :
    ∀ (t : String) (b : Bool), ((n, v) :: M).lookup t = some b → PySem.W.kitOne K (.ref C) (.type t) = some b := fun m b e => by
  rw [List.lookup_cons] at e
  cases c : (m == n) with
  | true =>
    rw [c] at e
    cases e
    rw [show m = n by simpa using c]
    exact h2
  | false => rw [c] at e; exact h m b e
theorem bl_isV {M : List (Str × List (Str × Bool) × List (String × Bool))} (V : IsvT G M) (hK : X.K = G.K) : CallR X (.builtin "isinstance") (rD G (gIsV M)) := by
  intro pins s σ H xs us Q I r h
  obtain ⟨N, ds, rr, q0⟩ := h
  obtain ⟨x, c, d, rfl, eq, q⟩ := g2_inv q0
  clear q0
  obtain ⟨v, w', rfl, r1, r2⟩ := rr.two_inv
  unfold isV at eq
  split at eq
  · rename_i b n dd' ks
    obtain ⟨t, et, eq2⟩ := Option.bind_eq_some_iff.mp eq
    clear eq
    obtain ⟨C, gC, T, h1, h2⟩ := V.ex n t et
    obtain ⟨rfl, ⟨C', gC', hx0⟩, hx⟩ := r1
    rw [gC] at gC'
    cases gC'
    obtain ⟨u1, u2, rfl, q1, q2⟩ := vals2 r
    cases (show u1 = Value.ref b from q1)
    obtain ⟨⟨oe, vs, hget, hz, hv⟩, _, _⟩ := I.hok b _ hx0
    have J : ∃ od, PySem.W.InstAt s.heap b oe C od := by
      obtain ⟨z1, z2⟩ := hz
      cases dd' with
      | none => exact ⟨none, hget, z1, by unfold PySem.W.notCls; rw [hv] <;> rfl, by rw [z2]; exact trivial⟩
      | some d0 =>
        obtain ⟨gs, hgs, _⟩ := hx d0 rfl
        have ho : ObjOk X.prog X.w H s.heap d0 (.xd gs) := I.hok d0 _ hgs
        obtain ⟨mA, hns, _⟩ := ho
        obtain ⟨od, _, _, hod, _⟩ := hns
        exact ⟨some od, hget, z1, by unfold PySem.W.notCls; rw [hv] <;> rfl, by rw [z2]; exact hod⟩
    obtain ⟨od, J⟩ := J
    have E := T.is
    rw [← hK] at E
    obtain ⟨cd, hcd, _⟩ := PySem.W.any_some E.hd
    have fin : ∀ t : Bool, d = .bl t → Q (.bl t) H := fun t e => q _ H (Same.refl H) (by rw [e]; rfl) fun z => nomatch z
    have key : ∀ (cv : Value) (t : Bool), u2 = cv → PySem.W.kitOne X.K (.ref C) cv = some t → d = .bl t → wpAny (model X.prog X.w) X.A (call (.builtin "isinstance") [.ref b, u2]) (EP X pins σ Q) X.xe s := fun cv t e1 e2 e3 => by
      subst e1
      exact PySem.W.kia_one (PySem.W.kitx_exc (by rw [hcd]; rfl) E.hg E.hk E.hs E.ha E.hn E.ht E.hm) I.kIn J e2 (fun z => nomatch z) fun tk => ⟨.bl t, H, I.kept (t' := tk) fun _ _ z => z, rfl, fin t e3⟩
    split at eq2
    · rename_i m
      obtain ⟨t, et, ed⟩ := Option.map_eq_some_iff.mp eq2
      obtain ⟨D, gD, kD'⟩ := h1 m t et
      obtain ⟨D', ew, hD'⟩ := r2
      rw [gD] at hD'
      cases hD'
      subst ew
      exact key (.ref D) t q2 (hK ▸ kD') ed.symm
    · rename_i m
      obtain ⟨t, et, ed⟩ := Option.map_eq_some_iff.mp eq2
      have ew : w' = .ty m := r2
      subst ew
      exact key (.type m) t q2 (hK ▸ h2 m t et) ed.symm
    · cases eq2
  · cases eq
end
end Fb
end

section
set_option Elab.async false
set_option linter.all false
set_option maxRecDepth 100000
set_option maxHeartbeats 4000000
namespace FbL
open PySem PySem.Spec PyProof.Rows L2 Fb
abbrev ti_InvalidCommand : List (Str × Bool) := [("InvalidPlan", false), ("InvalidText", false), ("InvalidWorld", false), ("InvalidLooks", false), ("Refused", false), ("InvalidCommand", true), ("NoWorld", false), ("NoName", false), ("BoreError", true)]
abbrev ti_InvalidLooks : List (Str × Bool) := [("InvalidPlan", false), ("InvalidText", false), ("InvalidWorld", false), ("InvalidLooks", true), ("Refused", false), ("InvalidCommand", false), ("NoWorld", false), ("NoName", false), ("BoreError", true)]
abbrev ti_InvalidPlan : List (Str × Bool) := [("InvalidPlan", true), ("InvalidText", false), ("InvalidWorld", false), ("InvalidLooks", false), ("Refused", false), ("InvalidCommand", false), ("NoWorld", false), ("NoName", false), ("BoreError", true)]
abbrev ti_InvalidText : List (Str × Bool) := [("InvalidPlan", false), ("InvalidText", true), ("InvalidWorld", false), ("InvalidLooks", false), ("Refused", false), ("InvalidCommand", false), ("NoWorld", false), ("NoName", false), ("BoreError", true)]
abbrev ti_InvalidWorld : List (Str × Bool) := [("InvalidPlan", false), ("InvalidText", false), ("InvalidWorld", true), ("InvalidLooks", false), ("Refused", false), ("InvalidCommand", false), ("NoWorld", false), ("NoName", false), ("BoreError", true)]
abbrev ti_NoName : List (Str × Bool) := [("InvalidPlan", false), ("InvalidText", false), ("InvalidWorld", false), ("InvalidLooks", false), ("Refused", false), ("InvalidCommand", false), ("NoWorld", false), ("NoName", true), ("BoreError", false)]
abbrev ti_NoWorld : List (Str × Bool) := [("InvalidPlan", false), ("InvalidText", false), ("InvalidWorld", false), ("InvalidLooks", false), ("Refused", false), ("InvalidCommand", false), ("NoWorld", true), ("NoName", false), ("BoreError", true)]
abbrev ti_Refused : List (Str × Bool) := [("InvalidPlan", false), ("InvalidText", false), ("InvalidWorld", false), ("InvalidLooks", false), ("Refused", true), ("InvalidCommand", false), ("NoWorld", false), ("NoName", false), ("BoreError", true)]
abbrev tu_InvalidCommand : List (String × Bool) := [("ValueError", true), ("KeyError", false)]
abbrev tu_InvalidLooks : List (String × Bool) := [("ValueError", true), ("KeyError", false)]
abbrev tu_InvalidPlan : List (String × Bool) := [("ValueError", true), ("KeyError", false)]
abbrev tu_InvalidText : List (String × Bool) := [("ValueError", true), ("KeyError", false)]
abbrev tu_InvalidWorld : List (String × Bool) := [("ValueError", true), ("KeyError", false)]
abbrev tu_NoName : List (String × Bool) := [("ValueError", false), ("KeyError", true)]
abbrev tu_NoWorld : List (String × Bool) := [("ValueError", true), ("KeyError", false)]
abbrev tu_Refused : List (String × Bool) := [("ValueError", true), ("KeyError", false)]
def isVM : List (Str × List (Str × Bool) × List (String × Bool)) := [("InvalidCommand", ti_InvalidCommand, tu_InvalidCommand), ("InvalidLooks", ti_InvalidLooks, tu_InvalidLooks), ("InvalidPlan", ti_InvalidPlan, tu_InvalidPlan), ("InvalidText", ti_InvalidText, tu_InvalidText), ("InvalidWorld", ti_InvalidWorld, tu_InvalidWorld), ("NoName", ti_NoName, tu_NoName), ("NoWorld", ti_NoWorld, tu_NoWorld), ("Refused", ti_Refused, tu_Refused)]
def sem__law_pick : List D → Rt := runBody 2 (mRet (mDr (mOp gIx (mVar 1) (mDe (mCall 2 sem__law_draw [] (mCons (mVar 0) (mCons (mDe (mBlt (g1 lenD) (mCons (mVar 1) mNil))) mNil)))))))
def sem__law_any_0 : List D → Rt := fun _ => W.fail
def sem__law_any_1 : List D → Rt := runBody 5 (mSeq (mSet [0] 2 (mCall 2 sem__law_draw [] (mCons (mVar 0) (mCons (mC (.int 11)) mNil)))) (mSeq (mIf (mAnd (mTest (mOp gGt (mVar 1) (mC (.int 0)))) (mTest (mOp gLt (mVar 2) (mC (.int 4))))) (mSeq (mSet [0, 1] 3 (mLc (mRng1 (mCons (mDe (mCall 2 sem__law_draw [] (mCons (mVar 0) (mCons (mC (.int 4)) mNil)))) mNil)) [4] (pName 4) mYes (mDe (mCall 2 sem__law_any_0 [] (mCons (mVar 0) (mCons (mOp gSub (mVar 1) (mC (.int 1))) mNil)))))) (mRet (mIfE (mTest (mOp gLt (mVar 2) (mC (.int 2)))) (mBlt (gTuple) (mCons (mVar 3) mNil)) (mDr (mVar 3))))) mSkip) (mSeq (mIf (mTest (mOp gLt (mVar 2) (mC (.int 7)))) (mRet (mCall 2 sem__law_pick [] (mCons (mVar 0) (mCons (mDe (mLst (mCons (mC (.int 0)) (mCons (mC (.int 1)) (mCons (mNeg (mC (.int 1))) (mCons (mC (.int 7)) (mCons (mOp gPow (mC (.int 10)) (mC (.int 18))) (mCons (mC (.bl true)) (mCons (mC (.bl false)) (mCons (mC .non) mNil)))))))))) mNil)))) mSkip) (mRet (mCall 2 sem__law_pick [] (mCons (mVar 0) (mCons (mDe (mLst (mCons (mC (.str "")) (mCons (mC (.str "Ann")) (mCons (mC (.str "longer")) (mCons (mC (.str " ")) (mCons (mC (.str "-")) (mCons (mC (.str "a1")) (mCons (mC (.str "meet 1 a b")) (mCons (mTup (mCons (mC (.int 0)) (mCons (mC (.int 3)) mNil))) (mCons (mTup (mCons (mC (.int 3)) (mCons (mC (.int 0)) mNil))) mNil))))))))))) mNil)))))))
def sem__law_any_2 : List D → Rt := runBody 5 (mSeq (mSet [0] 2 (mCall 2 sem__law_draw [] (mCons (mVar 0) (mCons (mC (.int 11)) mNil)))) (mSeq (mIf (mAnd (mTest (mOp gGt (mVar 1) (mC (.int 0)))) (mTest (mOp gLt (mVar 2) (mC (.int 4))))) (mSeq (mSet [0, 1] 3 (mLc (mRng1 (mCons (mDe (mCall 2 sem__law_draw [] (mCons (mVar 0) (mCons (mC (.int 4)) mNil)))) mNil)) [4] (pName 4) mYes (mDe (mCall 2 sem__law_any_1 [] (mCons (mVar 0) (mCons (mOp gSub (mVar 1) (mC (.int 1))) mNil)))))) (mRet (mIfE (mTest (mOp gLt (mVar 2) (mC (.int 2)))) (mBlt (gTuple) (mCons (mVar 3) mNil)) (mDr (mVar 3))))) mSkip) (mSeq (mIf (mTest (mOp gLt (mVar 2) (mC (.int 7)))) (mRet (mCall 2 sem__law_pick [] (mCons (mVar 0) (mCons (mDe (mLst (mCons (mC (.int 0)) (mCons (mC (.int 1)) (mCons (mNeg (mC (.int 1))) (mCons (mC (.int 7)) (mCons (mOp gPow (mC (.int 10)) (mC (.int 18))) (mCons (mC (.bl true)) (mCons (mC (.bl false)) (mCons (mC .non) mNil)))))))))) mNil)))) mSkip) (mRet (mCall 2 sem__law_pick [] (mCons (mVar 0) (mCons (mDe (mLst (mCons (mC (.str "")) (mCons (mC (.str "Ann")) (mCons (mC (.str "longer")) (mCons (mC (.str " ")) (mCons (mC (.str "-")) (mCons (mC (.str "a1")) (mCons (mC (.str "meet 1 a b")) (mCons (mTup (mCons (mC (.int 0)) (mCons (mC (.int 3)) mNil))) (mCons (mTup (mCons (mC (.int 3)) (mCons (mC (.int 0)) mNil))) mNil))))))))))) mNil)))))))
def sem__law_any_3 : List D → Rt := runBody 5 (mSeq (mSet [0] 2 (mCall 2 sem__law_draw [] (mCons (mVar 0) (mCons (mC (.int 11)) mNil)))) (mSeq (mIf (mAnd (mTest (mOp gGt (mVar 1) (mC (.int 0)))) (mTest (mOp gLt (mVar 2) (mC (.int 4))))) (mSeq (mSet [0, 1] 3 (mLc (mRng1 (mCons (mDe (mCall 2 sem__law_draw [] (mCons (mVar 0) (mCons (mC (.int 4)) mNil)))) mNil)) [4] (pName 4) mYes (mDe (mCall 2 sem__law_any_2 [] (mCons (mVar 0) (mCons (mOp gSub (mVar 1) (mC (.int 1))) mNil)))))) (mRet (mIfE (mTest (mOp gLt (mVar 2) (mC (.int 2)))) (mBlt (gTuple) (mCons (mVar 3) mNil)) (mDr (mVar 3))))) mSkip) (mSeq (mIf (mTest (mOp gLt (mVar 2) (mC (.int 7)))) (mRet (mCall 2 sem__law_pick [] (mCons (mVar 0) (mCons (mDe (mLst (mCons (mC (.int 0)) (mCons (mC (.int 1)) (mCons (mNeg (mC (.int 1))) (mCons (mC (.int 7)) (mCons (mOp gPow (mC (.int 10)) (mC (.int 18))) (mCons (mC (.bl true)) (mCons (mC (.bl false)) (mCons (mC .non) mNil)))))))))) mNil)))) mSkip) (mRet (mCall 2 sem__law_pick [] (mCons (mVar 0) (mCons (mDe (mLst (mCons (mC (.str "")) (mCons (mC (.str "Ann")) (mCons (mC (.str "longer")) (mCons (mC (.str " ")) (mCons (mC (.str "-")) (mCons (mC (.str "a1")) (mCons (mC (.str "meet 1 a b")) (mCons (mTup (mCons (mC (.int 0)) (mCons (mC (.int 3)) mNil))) (mCons (mTup (mCons (mC (.int 3)) (mCons (mC (.int 0)) mNil))) mNil))))))))))) mNil)))))))
def sem__law_any_4 : List D → Rt := runBody 5 (mSeq (mSet [0] 2 (mCall 2 sem__law_draw [] (mCons (mVar 0) (mCons (mC (.int 11)) mNil)))) (mSeq (mIf (mAnd (mTest (mOp gGt (mVar 1) (mC (.int 0)))) (mTest (mOp gLt (mVar 2) (mC (.int 4))))) (mSeq (mSet [0, 1] 3 (mLc (mRng1 (mCons (mDe (mCall 2 sem__law_draw [] (mCons (mVar 0) (mCons (mC (.int 4)) mNil)))) mNil)) [4] (pName 4) mYes (mDe (mCall 2 sem__law_any_3 [] (mCons (mVar 0) (mCons (mOp gSub (mVar 1) (mC (.int 1))) mNil)))))) (mRet (mIfE (mTest (mOp gLt (mVar 2) (mC (.int 2)))) (mBlt (gTuple) (mCons (mVar 3) mNil)) (mDr (mVar 3))))) mSkip) (mSeq (mIf (mTest (mOp gLt (mVar 2) (mC (.int 7)))) (mRet (mCall 2 sem__law_pick [] (mCons (mVar 0) (mCons (mDe (mLst (mCons (mC (.int 0)) (mCons (mC (.int 1)) (mCons (mNeg (mC (.int 1))) (mCons (mC (.int 7)) (mCons (mOp gPow (mC (.int 10)) (mC (.int 18))) (mCons (mC (.bl true)) (mCons (mC (.bl false)) (mCons (mC .non) mNil)))))))))) mNil)))) mSkip) (mRet (mCall 2 sem__law_pick [] (mCons (mVar 0) (mCons (mDe (mLst (mCons (mC (.str "")) (mCons (mC (.str "Ann")) (mCons (mC (.str "longer")) (mCons (mC (.str " ")) (mCons (mC (.str "-")) (mCons (mC (.str "a1")) (mCons (mC (.str "meet 1 a b")) (mCons (mTup (mCons (mC (.int 0)) (mCons (mC (.int 3)) mNil))) (mCons (mTup (mCons (mC (.int 3)) (mCons (mC (.int 0)) mNil))) mNil))))))))))) mNil)))))))
def sem__law_any_5 : List D → Rt := runBody 5 (mSeq (mSet [0] 2 (mCall 2 sem__law_draw [] (mCons (mVar 0) (mCons (mC (.int 11)) mNil)))) (mSeq (mIf (mAnd (mTest (mOp gGt (mVar 1) (mC (.int 0)))) (mTest (mOp gLt (mVar 2) (mC (.int 4))))) (mSeq (mSet [0, 1] 3 (mLc (mRng1 (mCons (mDe (mCall 2 sem__law_draw [] (mCons (mVar 0) (mCons (mC (.int 4)) mNil)))) mNil)) [4] (pName 4) mYes (mDe (mCall 2 sem__law_any_4 [] (mCons (mVar 0) (mCons (mOp gSub (mVar 1) (mC (.int 1))) mNil)))))) (mRet (mIfE (mTest (mOp gLt (mVar 2) (mC (.int 2)))) (mBlt (gTuple) (mCons (mVar 3) mNil)) (mDr (mVar 3))))) mSkip) (mSeq (mIf (mTest (mOp gLt (mVar 2) (mC (.int 7)))) (mRet (mCall 2 sem__law_pick [] (mCons (mVar 0) (mCons (mDe (mLst (mCons (mC (.int 0)) (mCons (mC (.int 1)) (mCons (mNeg (mC (.int 1))) (mCons (mC (.int 7)) (mCons (mOp gPow (mC (.int 10)) (mC (.int 18))) (mCons (mC (.bl true)) (mCons (mC (.bl false)) (mCons (mC .non) mNil)))))))))) mNil)))) mSkip) (mRet (mCall 2 sem__law_pick [] (mCons (mVar 0) (mCons (mDe (mLst (mCons (mC (.str "")) (mCons (mC (.str "Ann")) (mCons (mC (.str "longer")) (mCons (mC (.str " ")) (mCons (mC (.str "-")) (mCons (mC (.str "a1")) (mCons (mC (.str "meet 1 a b")) (mCons (mTup (mCons (mC (.int 0)) (mCons (mC (.int 3)) mNil))) (mCons (mTup (mCons (mC (.int 3)) (mCons (mC (.int 0)) mNil))) mNil))))))))))) mNil)))))))
def sem__law_any_6 : List D → Rt := runBody 5 (mSeq (mSet [0] 2 (mCall 2 sem__law_draw [] (mCons (mVar 0) (mCons (mC (.int 11)) mNil)))) (mSeq (mIf (mAnd (mTest (mOp gGt (mVar 1) (mC (.int 0)))) (mTest (mOp gLt (mVar 2) (mC (.int 4))))) (mSeq (mSet [0, 1] 3 (mLc (mRng1 (mCons (mDe (mCall 2 sem__law_draw [] (mCons (mVar 0) (mCons (mC (.int 4)) mNil)))) mNil)) [4] (pName 4) mYes (mDe (mCall 2 sem__law_any_5 [] (mCons (mVar 0) (mCons (mOp gSub (mVar 1) (mC (.int 1))) mNil)))))) (mRet (mIfE (mTest (mOp gLt (mVar 2) (mC (.int 2)))) (mBlt (gTuple) (mCons (mVar 3) mNil)) (mDr (mVar 3))))) mSkip) (mSeq (mIf (mTest (mOp gLt (mVar 2) (mC (.int 7)))) (mRet (mCall 2 sem__law_pick [] (mCons (mVar 0) (mCons (mDe (mLst (mCons (mC (.int 0)) (mCons (mC (.int 1)) (mCons (mNeg (mC (.int 1))) (mCons (mC (.int 7)) (mCons (mOp gPow (mC (.int 10)) (mC (.int 18))) (mCons (mC (.bl true)) (mCons (mC (.bl false)) (mCons (mC .non) mNil)))))))))) mNil)))) mSkip) (mRet (mCall 2 sem__law_pick [] (mCons (mVar 0) (mCons (mDe (mLst (mCons (mC (.str "")) (mCons (mC (.str "Ann")) (mCons (mC (.str "longer")) (mCons (mC (.str " ")) (mCons (mC (.str "-")) (mCons (mC (.str "a1")) (mCons (mC (.str "meet 1 a b")) (mCons (mTup (mCons (mC (.int 0)) (mCons (mC (.int 3)) mNil))) (mCons (mTup (mCons (mC (.int 3)) (mCons (mC (.int 0)) mNil))) mNil))))))))))) mNil)))))))
def sem__law_any_7 : List D → Rt := runBody 5 (mSeq (mSet [0] 2 (mCall 2 sem__law_draw [] (mCons (mVar 0) (mCons (mC (.int 11)) mNil)))) (mSeq (mIf (mAnd (mTest (mOp gGt (mVar 1) (mC (.int 0)))) (mTest (mOp gLt (mVar 2) (mC (.int 4))))) (mSeq (mSet [0, 1] 3 (mLc (mRng1 (mCons (mDe (mCall 2 sem__law_draw [] (mCons (mVar 0) (mCons (mC (.int 4)) mNil)))) mNil)) [4] (pName 4) mYes (mDe (mCall 2 sem__law_any_6 [] (mCons (mVar 0) (mCons (mOp gSub (mVar 1) (mC (.int 1))) mNil)))))) (mRet (mIfE (mTest (mOp gLt (mVar 2) (mC (.int 2)))) (mBlt (gTuple) (mCons (mVar 3) mNil)) (mDr (mVar 3))))) mSkip) (mSeq (mIf (mTest (mOp gLt (mVar 2) (mC (.int 7)))) (mRet (mCall 2 sem__law_pick [] (mCons (mVar 0) (mCons (mDe (mLst (mCons (mC (.int 0)) (mCons (mC (.int 1)) (mCons (mNeg (mC (.int 1))) (mCons (mC (.int 7)) (mCons (mOp gPow (mC (.int 10)) (mC (.int 18))) (mCons (mC (.bl true)) (mCons (mC (.bl false)) (mCons (mC .non) mNil)))))))))) mNil)))) mSkip) (mRet (mCall 2 sem__law_pick [] (mCons (mVar 0) (mCons (mDe (mLst (mCons (mC (.str "")) (mCons (mC (.str "Ann")) (mCons (mC (.str "longer")) (mCons (mC (.str " ")) (mCons (mC (.str "-")) (mCons (mC (.str "a1")) (mCons (mC (.str "meet 1 a b")) (mCons (mTup (mCons (mC (.int 0)) (mCons (mC (.int 3)) mNil))) (mCons (mTup (mCons (mC (.int 3)) (mCons (mC (.int 0)) mNil))) mNil))))))))))) mNil)))))))
def sem__law_any_8 : List D → Rt := runBody 5 (mSeq (mSet [0] 2 (mCall 2 sem__law_draw [] (mCons (mVar 0) (mCons (mC (.int 11)) mNil)))) (mSeq (mIf (mAnd (mTest (mOp gGt (mVar 1) (mC (.int 0)))) (mTest (mOp gLt (mVar 2) (mC (.int 4))))) (mSeq (mSet [0, 1] 3 (mLc (mRng1 (mCons (mDe (mCall 2 sem__law_draw [] (mCons (mVar 0) (mCons (mC (.int 4)) mNil)))) mNil)) [4] (pName 4) mYes (mDe (mCall 2 sem__law_any_7 [] (mCons (mVar 0) (mCons (mOp gSub (mVar 1) (mC (.int 1))) mNil)))))) (mRet (mIfE (mTest (mOp gLt (mVar 2) (mC (.int 2)))) (mBlt (gTuple) (mCons (mVar 3) mNil)) (mDr (mVar 3))))) mSkip) (mSeq (mIf (mTest (mOp gLt (mVar 2) (mC (.int 7)))) (mRet (mCall 2 sem__law_pick [] (mCons (mVar 0) (mCons (mDe (mLst (mCons (mC (.int 0)) (mCons (mC (.int 1)) (mCons (mNeg (mC (.int 1))) (mCons (mC (.int 7)) (mCons (mOp gPow (mC (.int 10)) (mC (.int 18))) (mCons (mC (.bl true)) (mCons (mC (.bl false)) (mCons (mC .non) mNil)))))))))) mNil)))) mSkip) (mRet (mCall 2 sem__law_pick [] (mCons (mVar 0) (mCons (mDe (mLst (mCons (mC (.str "")) (mCons (mC (.str "Ann")) (mCons (mC (.str "longer")) (mCons (mC (.str " ")) (mCons (mC (.str "-")) (mCons (mC (.str "a1")) (mCons (mC (.str "meet 1 a b")) (mCons (mTup (mCons (mC (.int 0)) (mCons (mC (.int 3)) mNil))) (mCons (mTup (mCons (mC (.int 3)) (mCons (mC (.int 0)) mNil))) mNil))))))))))) mNil)))))))
abbrev sem__law_any : List D → Rt := sem__law_any_8
def sem__law_deal0 : List D → Rt := runBody 4 (mSeq (mPar [(1, [3, 0], (mLc (mWalk (mDe (mSlice (mVar 0) mNoPart (mPart (mC (.int 60)))))) [3] (pName 3) mYes (mDe (mBlt (g1 absD) (mCons (mVar 3) mNil))))), (2, [], (mDr (mC (.int 67867979))))]) (mSeq (mFor [1] (mWalk (mVar 1)) (pName 3) (mSet [2, 3] 2 (mDr (mOp gMod (mDe (mBlt (g1 intD) (mCons (mDe (mOpR gAdd (mOp gMul (mVar 2) (mC (.int 16807))) (mOp gMod (mDe (mBlt (g1 intD) (mCons (mVar 3) mNil))) (mC (.int 2147483629))))) mNil))) (mC (.int 2147483647)))))) (mRet (mLst (mCons (mDe (mRev (mDe (mLc (mWalk (mVar 1)) [3] (pName 3) (mTest (mOp gGe (mVar 3) (mOp gPow (mC (.int 10)) (mC (.int 18))))) (mVar 3))) (mPart (mNeg (mC (.int 1)))))) (mCons (mVar 2) mNil))))))
def sem__law_sorts : List D → Rt := runBody 2 (mSeq (mSet [0] 1 (mLst (mCons (mDe (mBlt (gIsV isVM) (mCons (mVar 0) (mCons (mC (.cls "InvalidPlan")) mNil)))) (mCons (mDe (mBlt (gIsV isVM) (mCons (mVar 0) (mCons (mC (.cls "InvalidText")) mNil)))) (mCons (mDe (mBlt (gIsV isVM) (mCons (mVar 0) (mCons (mC (.cls "InvalidWorld")) mNil)))) mNil))))) (mSeq (mSet [1, 0] 1 (mOpR gAdd (mVar 1) (mDe (mLst (mCons (mDe (mBlt (gIsV isVM) (mCons (mVar 0) (mCons (mC (.cls "InvalidLooks")) mNil)))) (mCons (mDe (mBlt (gIsV isVM) (mCons (mVar 0) (mCons (mC (.cls "Refused")) mNil)))) (mCons (mDe (mBlt (gIsV isVM) (mCons (mVar 0) (mCons (mC (.cls "InvalidCommand")) mNil)))) mNil))))))) (mRet (mOpR gAdd (mVar 1) (mDe (mLst (mCons (mDe (mBlt (gIsV isVM) (mCons (mVar 0) (mCons (mC (.cls "NoWorld")) mNil)))) (mCons (mDe (mBlt (gIsV isVM) (mCons (mVar 0) (mCons (mC (.cls "NoName")) mNil)))) mNil))))))))
def sem_law : List D → Rt := runBody 9 (mSeq (mSet [0] 1 (mCall 1 sem__law_deal [] (mCons (mVar 0) mNil))) (mSeq (mFor [] (mRng1 (mCons (mC (.int 8)) mNil)) (pName 2) (mSeq (mSet [1] 3 (mCall 2 sem__law_any [] (mCons (mVar 1) (mCons (mC (.int 7)) mNil)))) (mSeq (mCelS 3 (mSet [3, 2] 3 (mIfE (mTest (mOp (gEq false) (mVar 2) (mC (.int 0)))) (mLst (mCons (mVar 3) mNil)) (mDr (mVar 3))))) (mSeq (mSet [3] 4 (mLst (mCons (mExv "InvalidPlan" "word" (mPtr 3)) (mCons (mExvK "InvalidText" "at" (mCons (mPtr 3) mNil)) (mCons (mExv "InvalidWorld" "at" (mPtr 3)) (mCons (mExvK "InvalidLooks" "at" (mCons (mPtr 3) mNil)) mNil)))))) (mSeq (mSet [4, 3] 4 (mOpR gAdd (mVar 4) (mDe (mLst (mCons (mExv "Refused" "at" (mPtr 3)) (mCons (mExv0 "InvalidCommand") (mCons (mExv0 "NoWorld") (mCons (mExv "NoName" "name" (mPtr 3)) mNil)))))))) (mSeq (mSet [4] 5 (mLst (mCons (mXe ["InvalidPlan"] "word" (mOp gIx (mVar 4) (mC (.int 0)))) (mCons (mXe ["InvalidText", "InvalidWorld", "InvalidLooks", "Refused"] "at" (mOp gIx (mVar 4) (mC (.int 1)))) (mCons (mXe ["InvalidText", "InvalidWorld", "InvalidLooks", "Refused"] "at" (mOp gIx (mVar 4) (mC (.int 2)))) (mCons (mXe ["InvalidText", "InvalidWorld", "InvalidLooks", "Refused"] "at" (mOp gIx (mVar 4) (mC (.int 3)))) (mCons (mXe ["InvalidText", "InvalidWorld", "InvalidLooks", "Refused"] "at" (mOp gIx (mVar 4) (mC (.int 4)))) (mCons (mXe ["NoName"] "name" (mOp gIx (mVar 4) (mC (.int 7)))) mNil)))))))) (mSeq (mSet [5, 3] 5 (mOpR gAdd (mVar 5) (mDe (mLst (mCons (mXe ["InvalidPlan"] "word" (mExvK "InvalidPlan" "word" (mCons (mPtr 3) mNil))) (mCons (mXe ["InvalidText", "InvalidWorld", "InvalidLooks", "Refused"] "at" (mExvK "Refused" "at" (mCons (mPtr 3) mNil))) (mCons (mXe ["NoName"] "name" (mExvK "NoName" "name" (mCons (mPtr 3) mNil))) mNil))))))) (mSeq (mIf (mTest (mOp (gEq false) (mVar 2) (mC (.int 0)))) (mAppC [] 3 (mC (.str "late"))) mSkip) (mSeq (mIf (mTest (mOp (gEq true) (mDe (mLc (mWalk (mVar 5)) [7] (pName 7) (mTest (mOp (gEq true) (mDe (mBlt (gReprS) (mCons (mAli 7 3) mNil))) (mDe (mBlt (gReprS) (mCons (mAli 3 3) mNil))))) (mC (.int 1)))) (mDe (mLst mNil)))) (mRet (mDr (mC (.bl false)))) mSkip) (mFor [4] (mEnum (mCons (mVar 4) mNil)) (pTup 2 (pCons (pName 6) (pCons (pName 7) pNil))) (mSeq (mIf (mTest (mOp (gEq true) (mDe (mCall 1 sem__law_sorts [] (mCons (mVar 7) mNil))) (mDe (mLc (mRng1 (mCons (mC (.int 8)) mNil)) [8] (pName 8) mYes (mOp (gEq false) (mVar 6) (mVar 8)))))) (mRet (mDr (mC (.bl false)))) mSkip) (mSeq (mIf (mOr (mTest (mOp (gEq true) (mDe (mBlt (gIsV isVM) (mCons (mVar 7) (mCons (mC (.cls "BoreError")) mNil)))) (mOp gLt (mVar 6) (mC (.int 7))))) (mTest (mOp (gEq true) (mDe (mBlt (gIsV isVM) (mCons (mVar 7) (mCons (mC (.ty "ValueError")) mNil)))) (mOp gLt (mVar 6) (mC (.int 7)))))) (mRet (mDr (mC (.bl false)))) mSkip) (mIf (mTest (mOp (gEq true) (mDe (mBlt (gIsV isVM) (mCons (mVar 7) (mCons (mC (.ty "KeyError")) mNil)))) (mOp (gEq false) (mVar 6) (mC (.int 7))))) (mRet (mDr (mC (.bl false)))) mSkip))))))))))))) (mRet (mDr (mC (.bl true))))))
end FbL
end

section
set_option Elab.async false
set_option linter.all false
set_option maxRecDepth 100000
set_option maxHeartbeats 4000000
namespace FbL
open PySem PySem.Spec PyProof.Rows L2 Fb
def spD : Option (Int × Int) → D
  | none => .non
  | some (a, b) => .tup [.int a, .int b]
def spOk : Option (Int × Int) → Bool
  | none => true
  | some (a, b) => decide (0 ≤ a) && decide (0 ≤ b) && decide (a ≤ b)
def letters : Str := "abcdefghijklmnopqrstuvwxyz"
def nameOk (x : Str) : Bool := decide (1 ≤ x.length) && decide (x.length ≤ 4) && x.cps.toList.all fun c => decide (c ∈ letters.cps.toList)
theorem sizeLine_ge : 1000 ≤ sizeLine := by rw [sizeLine_eq]; decide
structure Per where
  nm : Str
  w : Int
  s : Int
  sp : Option (Int × Int)
def perD (p : Per) : D := .tup [.str p.nm, .int p.w, .int p.s, spD p.sp]
structure Met where
  day : Int
  one : Str
  other : Str
def metD (m : Met) : D := .tup [.int m.day, .str m.one, .str m.other]
def perOk (p : Per) : Bool := nameOk p.nm && (decide (1 ≤ p.w) && (decide (0 ≤ p.s) && spOk p.sp))
theorem lookK_map {α : Type} (ks : α → Key) (f : α → D) : ∀ (l : List α) (k : Key), lookK (l.map fun a => (ks a, f a)) k = (l.find? fun a => decide (ks a = k)).map f
  | [], k => rfl
  | a :: l, k => by
    rw [List.map_cons, List.find?_cons]
    show (if ks a = k then some (f a) else lookK (l.map fun a => (ks a, f a)) k) = _
    by_cases h : ks a = k
    · rw [if_pos h, decide_eq_true h]; rfl
    · rw [if_neg h, decide_eq_false h, lookK_map ks f l k]
end FbL
end

section
set_option Elab.async false
set_option linter.all false
set_option maxRecDepth 100000
set_option maxHeartbeats 4000000
namespace FbL
open PySem PySem.Spec PyProof.Rows L2 Fb
abbrev sOk (x : Str) : Bool := PySem.PyData.strOk x
theorem name_len {x : Str} (h : nameOk x = true) : x.length ≤ 4 := by
  unfold nameOk at h
  exact of_decide_eq_true (Bool.and_eq_true_iff.mp (Bool.and_eq_true_iff.mp h).1).2
theorem shaped_str {x : Str} (h : sOk x = true) : SeqAt.shaped (.str x) = true := by
  show (sOk x && decide (0 ≤ 64)) = true
  rw [h]; rfl
theorem deq_str {a b : Str} (h : sOk a = true) (h' : sOk b = true) : D.deq (.str a) (.str b) = some (a == b) := by
  show (if SeqAt.shaped (.str a) = true ∧ SeqAt.shaped (.str b) = true then some (PyData.eqv (.str a) (.str b)) else none) = _
  rw [if_pos ⟨shaped_str h, shaped_str h'⟩]; rfl
theorem eq_int (neg : Bool) (a b : Int) : gEq neg (.int a) (.int b) = W.ret (.bl ((a == b) != neg)) := rfl
theorem eq_str (neg : Bool) {a b : Str} (h : sOk a = true) (h' : sOk b = true) : gEq neg (.str a) (.str b) = W.ret (.bl ((a == b) != neg)) := by
  unfold gEq; rw [deq_str h h']
theorem pys_map {α : Type} (f : α → D) (g : α → PyData) (h : ∀ a, (f a).py = some (g a)) : ∀ l : List α, D.pys (l.map f) = some (l.map g)
  | [] => rfl
  | a :: l => by
    show (match D.py (f a), D.pys (l.map f) with | some p, some ps => some (p :: ps) | _, _ => none) = _
    rw [h, pys_map f g h l]; rfl
theorem canLay_all : ∀ {l : List PyData}, (∀ d ∈ l, d.canLay0 = true) → PyData.canLayAll0 l = true
  | [], _ => rfl
  | a :: l, h => by
    show (a.canLay0 && PyData.canLayAll0 l) = true
    rw [h a List.mem_cons_self, canLay_all fun d hd => h d (List.mem_cons_of_mem _ hd)]; rfl
theorem depth_all {n : Nat} : ∀ {l : List PyData}, (∀ d ∈ l, d.depth ≤ n) → PyData.depthAll l ≤ n
  | [], _ => Nat.zero_le _
  | a :: l, h => by
    show max a.depth (PyData.depthAll l) ≤ n
    exact Nat.max_le.mpr ⟨h a List.mem_cons_self, depth_all fun d hd => h d (List.mem_cons_of_mem _ hd)⟩
theorem shaped_list {l : List PyData} (h : ∀ d ∈ l, d.canLay0 = true ∧ d.depth ≤ 60) : SeqAt.shaped (.list l) = true ∧ SeqAt.shaped (.tuple l) = true := by
  have h1 := canLay_all fun d hd => (h d hd).1
  have h2 := depth_all fun d hd => (h d hd).2
  constructor
  · show (PyData.canLayAll0 l && decide (PyData.depthAll l + 1 ≤ 64)) = true
    rw [h1, decide_eq_true (by omega)]; rfl
  · show (PyData.canLayAll0 l && decide (PyData.depthAll l + 1 ≤ 64)) = true
    rw [h1, decide_eq_true (by omega)]; rfl
/-! ### people -/
def wrapD (t : Bool) (l : List D) : D := if t = true then .tup l else .lst l
theorem walk_wrap (t : Bool) (l : List D) : walkD (wrapD t l) = W.ret l := by cases t <;> rfl
end FbL
end

section
set_option Elab.async false
set_option linter.all false
set_option maxRecDepth 100000
set_option maxHeartbeats 4000000
namespace FbL
open PySem PySem.Spec PyProof.Rows L2 Fb
/-! ### meetings -/
def metOk (ns : List Str) (m : Met) : Bool := decide (0 ≤ m.day) && (nameOk m.one && nameOk m.other && !(m.one == m.other) && ((ns.any fun y => y == m.one) && (ns.any fun y => y == m.other)))
/-! ### plans -/
structure Pl where
  ps : List Per
  ms : List Met
def Pl.names (P : Pl) : List Str := P.ps.map (·.nm)
structure Pl.Ok (P : Pl) : Prop where
  ne : P.ps ≠ []
  lp : P.ps.length ≤ sizeLine
  lm : P.ms.length ≤ sizeLine
  per : ∀ p ∈ P.ps, perOk p = true
  nd : P.names.Nodup
  met : ∀ m ∈ P.ms, metOk P.names m = true
def plF (P : Pl) : List (Str × D) := [("people", .tup (P.ps.map perD)), ("meetings", .tup (P.ms.map metD))]
def plD (P : Pl) : D := .ins "Plan" (plF P)
theorem Pl.Ok.nm {P : Pl} (h : P.Ok) : ∀ y ∈ P.names, nameOk y = true := fun y hy => by
  obtain ⟨p, hp, rfl⟩ := List.mem_map.mp hy
  have := h.per p hp
  unfold perOk at this
  exact (Bool.and_eq_true_iff.mp this).1
theorem tuple_wrap (t : Bool) (l : List D) : gTuple [wrapD t l] = W.ret (false, .tup l) := by cases t <;> rfl
end FbL
end

section
set_option Elab.async false
set_option linter.all false
set_option maxRecDepth 100000
set_option maxHeartbeats 4000000
namespace FbL
open PySem PySem.Spec PyProof.Rows L2 Fb
def optD : Option Int → D
  | none => .non
  | some i => .int i
def minM (day : Int) : Option Int → Option Int
  | none => some day
  | some y => some (if y < day then y else day)
def passM (g : Option Int) (w day : Int) (t : Option Int) : Option Int := match g with
  | none => t
  | some x => if day < x + w then t else minM day t
/-! ### dicts of days -/
def dayD (ns : List Str) (f : Str → Option Int) : List (Key × D) := ns.map fun n => (Sum.inr n, optD (f n))
def upd1 (f : Str → Option Int) (n : Str) (v : Option Int) : Str → Option Int := fun m => if m = n then v else f m
theorem find_key {ns : List Str} {n : Str} (h : n ∈ ns) : (ns.find? fun m => decide ((Sum.inr m : Key) = Sum.inr n)) = some n := by
  induction ns with
  | nil => cases h
  | cons a l ih =>
    rw [List.find?_cons]
    by_cases e : a = n
    · subst e; rw [decide_eq_true rfl]
    · rw [decide_eq_false fun z => e (Sum.inr.inj z)]
      exact ih ((List.mem_cons.mp h).resolve_left fun z => e z.symm)
theorem look_day {ns : List Str} {f : Str → Option Int} {n : Str} (h : n ∈ ns) : lookK (dayD ns f) (.inr n) = some (optD (f n)) := by
  unfold dayD
  rw [lookK_map (fun n => Sum.inr n) (fun n => optD (f n)), find_key h]; rfl
/-! ### the sorted rows -/
def leM (a b : Met) : Bool := leD (metD a) (metD b)
def stepM (wt : Str → Int) (f : Str → Option Int) (m : Met) : Str → Option Int :=
  upd1 (upd1 f m.other (passM (f m.one) (wt m.one) m.day (f m.other))) m.one (passM (f m.other) (wt m.other) m.day (f m.one))
end FbL
end

section
set_option Elab.async false
set_option linter.all false
set_option maxRecDepth 100000
set_option maxHeartbeats 4000000
namespace FbL
open PySem PySem.Spec PyProof.Rows L2 Fb
theorem ix_day {ns : List Str} {f : Str → Option Int} {n : Str} (h : n ∈ ns) : gIx (.dic (dayD ns f)) (.str n) = W.ret (optD (f n)) := by
  unfold gIx
  show (match lookK (dayD ns f) (.inr n) with | some d => W.ret d | none => W.fail) = _
  rw [look_day h]
theorem small {n : Nat} (h : n ≤ 1000) : n ≤ sizeLine := Nat.le_trans h sizeLine_ge
end FbL
end

section
set_option Elab.async false
set_option linter.all false
set_option maxRecDepth 100000
set_option maxHeartbeats 4000000
namespace FbL
open PySem PySem.Spec PyProof.Rows L2 Fb
def perOf (ps : List Per) (n : Str) : Option Per := ps.find? fun p => decide (p.nm = n)
def waitOf (ps : List Per) (n : Str) : Int := ((perOf ps n).map (·.w)).getD 0
theorem perOf_mem {ps : List Per} {n : Str} (h : n ∈ ps.map (·.nm)) : ∃ p, perOf ps n = some p ∧ p ∈ ps ∧ p.nm = n := by
  obtain ⟨q, hq, e⟩ := List.mem_map.mp h
  rcases e1 : perOf ps n with _ | p
  · unfold perOf at e1
    have := List.find?_eq_none.mp e1 q hq
    exact absurd (decide_eq_true e) this
  · exact ⟨p, rfl, List.mem_of_find?_eq_some e1, of_decide_eq_true (List.find?_some (p := fun p : Per => decide (p.nm = n)) e1)⟩
def daysM (P : Pl) (f : Str → Option Int) : Str → Option Int := (P.ms.mergeSort leM).foldl (stepM (waitOf P.ps)) f
end FbL
end

section
set_option Elab.async false
set_option linter.all false
set_option maxRecDepth 100000
set_option maxHeartbeats 4000000
namespace FbL
open PySem PySem.Spec PyProof.Rows L2 Fb
def fstOk (ps : List Per) (w : Str × Int) : Prop := ∃ p ∈ ps, p.nm = w.1 ∧ ∃ lo hi, p.sp = some (lo, hi) ∧ 0 ≤ lo ∧ lo ≤ w.2 ∧ w.2 ≤ hi
theorem in_dic (neg : Bool) (ks : List (Key × D)) (x : Str) : gIn neg (.str x) (.dic ks) = W.ret (.bl ((lookK ks (.inr x)).isSome != neg)) := rfl
end FbL
end

section
set_option Elab.async false
set_option linter.all false
set_option maxRecDepth 100000
set_option maxHeartbeats 4000000
namespace FbL
open PySem PySem.Spec PyProof.Rows L2 Fb
def fstK (w : Str × Int) : Key × D := (Sum.inr w.1, .int w.2)
end FbL
end

section
set_option Elab.async false
set_option linter.all false
set_option maxRecDepth 100000
set_option maxHeartbeats 4000000
namespace FbL
open PySem PySem.Spec PyProof.Rows L2 Fb
def fstF (ws : List (Str × Int)) (n : Str) : Option Int := (ws.find? fun w => decide (w.1 = n)).map (·.2)
def sinceM (P : Pl) (ws : List (Str × Int)) : Str → Option Int := daysM P (fstF ws)
structure WOk (P : Pl) (ws : List (Str × Int)) : Prop where
  len : ws.length ≤ sizeLine
  ok : ∀ w ∈ ws, fstOk P.ps w
  nd : (ws.map (·.1)).Nodup
/-! ### lots -/
def inLot (g : Str → Option Int) (q : Per → Int) (day : Int) (p : Per) : Bool := match g p.nm with
  | none => false
  | some b => decide (b + q p ≤ day)
end FbL
end

section
set_option Elab.async false
set_option linter.all false
set_option maxRecDepth 100000
set_option maxHeartbeats 4000000
namespace FbL
open PySem PySem.Spec PyProof.Rows L2 Fb
theorem imms_ints : ∀ l : List Int, imms (l.map D.int) = true
  | [] => rfl
  | i :: r => by
    rw [List.map_cons]
    unfold imms
    rw [imms_ints r]
    rfl
def dC1 : Ro → W Ex (Bool × D) := mLc (mWalk (mDe (mSlice (mVar 0) mNoPart (mPart (mC (.int 60)))))) [3] (pName 3) mYes (mDe (mBlt (g1 absD) (mCons (mVar 3) mNil)))
def dC2 : Ro → W Ex (Bool × D) := mLc (mWalk (mVar 1)) [3] (pName 3) (mTest (mOp gGe (mVar 3) (mOp gPow (mC (.int 10)) (mC (.int 18))))) (mVar 3)
theorem small_ints {l : List Int} (h : l.length ≤ 100) : (l.map D.int).length ≤ sizeLine := by rw [List.length_map, sizeLine_eq]; omega
theorem dC1_eq (ns : List Int) (h : ns.length ≤ 63) (a b c : Option D) : ∃ l : List Int, l.length ≤ 63 ∧ dC1 [some (.scr ns), a, b, c] = W.ret (true, .lst (l.map D.int)) := by
  obtain ⟨l, hl, hll⟩ := cutD_ints ns none (some 60)
  refine ⟨l.map fun i => if i < 0 then -i else i, by rw [List.length_map]; omega, ?_⟩
  have e1 : (mWalk (mDe (mSlice (mVar 0) mNoPart (mPart (mC (.int 60)))))) [some (.scr ns), a, b, c] = W.ret (l.map D.int) := by
    show W.ret (cutD (ns.map D.int) none (some 60)) = _
    rw [hl]
  show (W.bind ((mWalk (mDe (mSlice (mVar 0) mNoPart (mPart (mC (.int 60)))))) [some (.scr ns), a, b, c]) fun ds => szd ds (W.bind (lcN (pName 3) mYes (mDe (mBlt (g1 absD) (mCons (mVar 3) mNil))) (wipeR [some (.scr ns), a, b, c] [3]) ds) fun ys => W.ret (true, D.lst ys))) = _
  rw [e1]
  show szd (l.map D.int) _ = _
  unfold szd
  rw [if_pos (small_ints (by omega)), lcN_all (fun d => match d with | .int i => .int (if i < 0 then -i else i) | d => d)]
  · show W.ret (true, D.lst _) = _
    rw [List.map_map, List.map_map]
    rfl
  · intro x hx
    obtain ⟨i, _, rfl⟩ := List.mem_map.mp hx
    exact ⟨[(3, .int i)], rfl, rfl⟩
theorem dC2_eq (l : List Int) (h : l.length ≤ 63) (a b c : Option D) : ∃ k : List Int, k.length ≤ 63 ∧ dC2 [a, some (.lst (l.map D.int)), b, c] = W.ret (true, .lst (k.map D.int)) := by
  refine ⟨l.filter fun i => decide (10 ^ 18 ≤ i), Nat.le_trans (List.length_filter_le ..) h, ?_⟩
  show szd (l.map D.int) _ = _
  unfold szd
  rw [if_pos (small_ints (by omega)), lcN_map (fun d => match d with | .int i => decide (10 ^ 18 ≤ i) | _ => false) id]
  · show W.ret (true, D.lst _) = _
    rw [List.map_id, List.filter_map]
    rfl
  · intro x hx
    obtain ⟨i, _, rfl⟩ := List.mem_map.mp hx
    exact ⟨[(3, .int i)], rfl, rfl, fun _ => rfl⟩
def dE : Ro → W Ex D := mOp gMod (mDe (mBlt (g1 intD) (mCons (mDe (mOpR gAdd (mOp gMul (mVar 2) (mC (.int 16807))) (mOp gMod (mDe (mBlt (g1 intD) (mCons (mVar 3) mNil))) (mC (.int 2147483629))))) mNil))) (mC (.int 2147483647))
theorem dE_eq (a b : Option D) (m i : Int) : ∃ m', dE [a, b, some (.int m), some (.int i)] = W.ret (.int m') := by
  refine ⟨(m * 16807 + i % 2147483629) % 2147483647, ?_⟩
  have e1 : gMul (.int m) (.int 16807) = W.ret (.int (m * 16807)) := by
    show (if (-(2 ^ 64) < m ∧ m < 2 ^ 64) ∨ (-(2 ^ 64) < (16807 : Int) ∧ (16807 : Int) < 2 ^ 64) then W.ret (D.int (m * 16807)) else W.fail) = _
    rw [if_pos (.inr (by decide))]
  show (W.bind (W.bind (W.bind (W.bind (W.calm (gMul (.int m) (.int 16807))) fun a => W.bind (W.calm (gMod (.int i) (.int 2147483629))) fun b => W.bind (W.calm (gAdd a b)) fun r => W.ret r.2) fun d => W.calm (g1 intD [d])) fun r => W.ret r.2) fun a => W.calm (gMod a (.int 2147483647))) = _
  rw [e1]
  rfl
theorem gII_mono {f : Int → Int → W Ex D} (h : ∀ i j, W.Mono (f i j)) (a b : D) : W.Mono (gII f a b) := by
  unfold gII
  cases a <;> cases b <;> first | exact h _ _ | exact W.Mono.fail
theorem gMod_mono : ∀ a b, W.Mono (gMod a b) := gII_mono fun _ _ => ite_mono W.Mono.ret W.Mono.fail
theorem gMul_mono : ∀ a b, W.Mono (gMul a b) := gII_mono fun _ _ => ite_mono W.Mono.ret W.Mono.fail
theorem gAdd_mono (a b : D) : W.Mono (gAdd a b) := by
  unfold gAdd
  cases a <;> cases b <;> first | exact W.Mono.ret | exact W.Mono.fail | exact ite_mono W.Mono.ret W.Mono.fail
theorem opm {g : D → D → W Ex D} {m n : Ro → W Ex D} (hg : ∀ a b, W.Mono (g a b)) (hm : ∀ ρ, W.Mono (m ρ)) (hn : ∀ ρ, W.Mono (n ρ)) (ρ : Ro) : W.Mono (mOp g m n ρ) := (hm ρ).bind fun d => (hn ρ).bind fun e => (hg d e).calm
theorem oprm {g : D → D → Rt} {m n : Ro → W Ex D} (hg : ∀ a b, W.Mono (g a b)) (hm : ∀ ρ, W.Mono (m ρ)) (hn : ∀ ρ, W.Mono (n ρ)) (ρ : Ro) : W.Mono (mOpR g m n ρ) := (hm ρ).bind fun d => (hn ρ).bind fun e => (hg d e).calm
theorem blm {g : List D → Rt} {m : Ro → W Ex (List D)} (hg : ∀ a, W.Mono (g a)) (hm : ∀ ρ, W.Mono (m ρ)) (ρ : Ro) : W.Mono (mBlt g m ρ) := (hm ρ).bind fun d => (hg d).calm
theorem dem {m : Ro → W Ex (Bool × D)} (hm : ∀ ρ, W.Mono (m ρ)) (ρ : Ro) : W.Mono (mDe m ρ) := (hm ρ).bind fun d => W.Mono.ret
theorem drm {m : Ro → W Ex D} (hm : ∀ ρ, W.Mono (m ρ)) (ρ : Ro) : W.Mono (mDr m ρ) := (hm ρ).bind fun d => W.Mono.ret
theorem cmo {m : Ro → W Ex D} {n : Ro → W Ex (List D)} (hm : ∀ ρ, W.Mono (m ρ)) (hn : ∀ ρ, W.Mono (n ρ)) (ρ : Ro) : W.Mono (mCons m n ρ) := (hm ρ).bind fun d => (hn ρ).bind fun _ => W.Mono.ret
theorem nim (ρ : Ro) : W.Mono (mNil ρ) := W.Mono.ret
theorem vam (i : Nat) (ρ : Ro) : W.Mono (mVar i ρ) := gotD_mono _
theorem com (d : D) (ρ : Ro) : W.Mono (mC d ρ) := W.Mono.ret
theorem dE_mono (ρ : Ro) : W.Mono (mDr dE ρ) := drm (opm gMod_mono (dem (blm (g1_mono _) (cmo (dem (oprm gAdd_mono (opm gMul_mono (vam 2) (com _)) (opm gMod_mono (dem (blm (g1_mono _) (cmo (vam 3) nim))) (com _)))) nim))) (com _)) ρ
def dR : Ro → W Ex (Bool × D) := mLst (mCons (mDe (mRev (mDe dC2) (mPart (mNeg (mC (.int 1)))))) (mCons (mVar 2) mNil))
theorem dR_eq (l : List Int) (h : l.length ≤ 63) (a c : Option D) (m : Int) : ∃ k : List Int, k.length ≤ 63 ∧ dR [a, some (.lst (l.map D.int)), some (.int m), c] = W.ret (true, .lst [.lst (k.map D.int), .int m]) := by
  obtain ⟨k, hk, e⟩ := dC2_eq l h a (some (.int m)) c
  refine ⟨k.reverse, by rw [List.length_reverse]; exact hk, ?_⟩
  show (W.bind (W.bind (W.bind (W.bind (dC2 [a, some (.lst (l.map D.int)), some (.int m), c]) fun r => W.ret r.2) fun d => if some (-1) = some (-1 : Int) then W.got (asL d) fun ds => W.ret (true, D.lst ds.reverse) else W.fail) fun r => W.ret r.2) fun d => W.bind (W.ret [.int m]) fun ds => W.ret (d :: ds)).bind (fun ds => szd ds (W.ret (true, D.lst ds))) = _
  rw [e]
  show W.ret (true, D.lst [.lst ((k.map D.int).reverse), .int m]) = _
  rw [List.map_reverse]
theorem deal_sem (ns : List Int) (h : ns.length ≤ 63) (Q : Bool × D → Prop) (E : Ex → Prop) (q : ∀ (cells : List Int) (m : Int), cells.length ≤ 100 → Q (true, .lst [.lst (cells.map D.int), .int m])) : sem__law_deal0 [.scr ns] Q E := by
  obtain ⟨l, hl, e1⟩ := dC1_eq ns h none none none
  have p1 : mPar [(1, [3, 0], dC1), (2, [], mDr (mC (.int 67867979)))] [some (false, .scr ns), none, none, none] = W.ret (.nx, [some (false, .scr ns), some (true, .lst (l.map D.int)), some (false, .int 67867979), none]) := by
    show W.bind (W.bind (up [some (false, .scr ns), none, none, none] (dC1 [some (.scr ns), none, none, none])) fun x => parN [some (false, .scr ns), none, none, none] [(2, [], mDr (mC (.int 67867979)))] [1] (asg [3, 0] 1 x [some (false, .scr ns), none, none, none])) (fun ρ' => W.ret (Fl.nx, ρ')) = _
    rw [e1]
    show W.ret (Fl.nx, asg [] 2 (false, .int 67867979) (asg [3, 0] 1 (true, .lst (l.map D.int)) [some (false, .scr ns), none, none, none])) = _
    have ea : asg [3, 0] 1 (true, .lst (l.map D.int)) [some (false, .scr ns), none, none, none] = [some (false, .scr ns), some (true, .lst (l.map D.int)), none, none] := by
      unfold asg
      rw [if_pos (show (if true = true then immTop (.lst (l.map D.int)) else imm (.lst (l.map D.int))) = true from imms_ints l)]
      rfl
    rw [ea]
    rfl
  have hb : ∀ ρ : En, W.Mono (mSet [2, 3] 2 (mDr dE) ρ) := fun ρ => (Mono.up (dE_mono _)).bind fun _ => W.Mono.ret
  show (W.bind (mPar [(1, [3, 0], dC1), (2, [], mDr (mC (.int 67867979)))] [some (false, .scr ns), none, none, none]) (andThen (mSeq (mFor [1] (mWalk (mVar 1)) (pName 3) (mSet [2, 3] 2 (mDr dE))) (mRet dR)))) _ _
  rw [p1]
  show (W.bind (forN (pName 3) (mSet [2, 3] 2 (mDr dE)) (l.map D.int) [some (false, .scr ns), some (false, .lst (l.map D.int)), some (false, .int 67867979), none]) (andThen (mRet dR))) _ _
  refine forN_inv hb (fun ds ρ => (∃ r : List Int, ds = r.map D.int) ∧ ∃ m o, ρ = [some (false, .scr ns), some (false, .lst (l.map D.int)), some (false, .int m), o]) ?_ ?_ ⟨⟨l, rfl⟩, _, _, rfl⟩
  · rintro d ds ρ ⟨⟨r, hr⟩, m, o, rfl⟩
    cases r with
    | nil => cases hr
    | cons i r =>
      rw [List.map_cons] at hr
      cases hr
      obtain ⟨m', e⟩ := dE_eq (some (.scr ns)) (some (.lst (l.map D.int))) m i
      refine ⟨[(3, .int i)], rfl, ?_⟩
      show (W.bind (up _ (W.bind (dE [some (.scr ns), some (.lst (l.map D.int)), some (.int m), some (.int i)]) fun d => W.ret (false, d))) fun r => W.ret (Fl.nx, asg [2, 3] 2 r [some (false, .scr ns), some (false, .lst (l.map D.int)), some (false, .int m), some (false, .int i)])) _ _
      rw [e]
      exact ⟨.inl rfl, ⟨r, rfl⟩, m', _, rfl⟩
  · rintro ρ ⟨_, m, o, rfl⟩
    obtain ⟨k, hk, e⟩ := dR_eq l hl (some (.scr ns)) (o.map (·.2)) m
    show (W.bind (up _ (dR (ro [some (false, .scr ns), some (false, .lst (l.map D.int)), some (false, .int m), o]))) fun r => W.ret (Fl.rt r, _)) _ _
    have er : ro [some (false, .scr ns), some (false, .lst (l.map D.int)), some (false, .int m), o] = [some (.scr ns), some (.lst (l.map D.int)), some (.int m), o.map (·.2)] := by cases o <;> rfl
    rw [er, e]
    exact q k m (by omega)
end FbL
end

section
set_option Elab.async false
set_option linter.all false
set_option maxRecDepth 100000
set_option maxHeartbeats 1000000
namespace FbL
open PySem PySem.Spec PyProof.Rows L2 Fb
/-! ### draws from the box of two numbers -/
theorem rng1_eq {n : Nat} (h : n ≤ 100000) : rng1D [.int n] = W.ret (rngD 0 n) := by
  have : rng1D [.int n] = if -2 ^ 62 ≤ (n : Int) ∧ (n : Int) < 2 ^ 62 then W.ret (rngD 0 (n : Int).toNat) else W.fail := by unfold rng1D; rfl
  rw [this, if_pos (by omega), Int.toNat_natCast]
end FbL
end

section
set_option Elab.async false
set_option linter.all false
set_option maxRecDepth 100000
set_option maxHeartbeats 1000000
namespace FbL
open PySem PySem.Spec PyProof.Rows L2 Fb
def seven : List Str := ["ann", "bob", "cyd", "dan", "eve", "f", "gg", "zzzz"]
structure DrPer (p : Per) : Prop where
  w1 : 1 ≤ p.w
  w3 : p.w ≤ 3
  s0 : 0 ≤ p.s
  s3 : p.s ≤ 3
  sp : ∀ lo hi, p.sp = some (lo, hi) → 0 ≤ lo ∧ lo ≤ 60 ∧ lo ≤ hi ∧ hi ≤ lo + 3
structure Drawn (P : Pl) : Prop where
  two : 1 ≤ P.ps.length
  most : P.ps.length ≤ 8
  per : ∀ p ∈ P.ps, DrPer p
  nd : P.names.Nodup
  nm : ∀ n ∈ P.names, n ∈ seven
  met : ∀ m ∈ P.ms, 0 ≤ m.day ∧ m.day ≤ 70 ∧ m.one ≠ m.other ∧ m.one ∈ P.names ∧ m.other ∈ P.names
  few : P.ms.length ≤ 100
theorem seven_ok : ∀ n ∈ seven, nameOk n = true := by decide
theorem Drawn.ok {P : Pl} (h : Drawn P) : P.Ok := by
  refine ⟨fun e => ?_, small (Nat.le_trans h.most (by decide)), small (Nat.le_trans h.few (by decide)), fun p hp => ?_, h.nd, fun m hm => ?_⟩
  · have := h.two; rw [e] at this; exact absurd this (by decide)
  · have d := h.per p hp
    unfold perOk
    rw [seven_ok _ (h.nm _ (List.mem_map_of_mem hp)), decide_eq_true d.w1, decide_eq_true d.s0]
    rcases e : p.sp with _ | ⟨lo, hi⟩
    · rfl
    · obtain ⟨h1, h2, h3, h4⟩ := d.sp lo hi e
      show (true && (true && (true && (decide (0 ≤ lo) && decide (0 ≤ hi) && decide (lo ≤ hi))))) = true
      rw [decide_eq_true h1, decide_eq_true (show (0 : Int) ≤ hi by omega), decide_eq_true h3]; rfl
  · obtain ⟨h0, h1, h2, h3, h4⟩ := h.met m hm
    unfold metOk
    have a1 : (P.names.any fun y => y == m.one) = true := List.any_eq_true.mpr ⟨_, h3, beq_self_eq_true _⟩
    have a2 : (P.names.any fun y => y == m.other) = true := List.any_eq_true.mpr ⟨_, h4, beq_self_eq_true _⟩
    have a3 : (m.one == m.other) = false := beq_eq_false_iff_ne.mpr h2
    show (decide (0 ≤ m.day) && (nameOk m.one && nameOk m.other && !(m.one == m.other) && ((P.names.any fun y => y == m.one) && (P.names.any fun y => y == m.other)))) = true
    rw [a1, a2, a3, decide_eq_true h0, seven_ok _ (h.nm _ h3), seven_ok _ (h.nm _ h4)]; rfl
/-- a told plan of the deal is a tuple: toldT (A2); this one is for the texts of the other family -/
def toldD (P : Pl) : D := .lst [.lst (P.ps.map perD), .lst (P.ms.map metD)]
end FbL
end

section
set_option Elab.async false
set_option linter.all false
set_option maxRecDepth 100000
set_option maxHeartbeats 1000000
namespace FbL
open PySem PySem.Spec PyProof.Rows L2 Fb
variable {mn be me : Int} {cd : List Str}
variable {cr : List Per} {a b c e : Option (Bool × D)}
end FbL
end

section
set_option Elab.async false
set_option linter.all false
set_option maxRecDepth 100000
set_option maxHeartbeats 1000000
namespace FbL
open PySem PySem.Spec PyProof.Rows L2 Fb
end FbL
end

section
set_option Elab.async false
set_option linter.all false
set_option maxRecDepth 100000
set_option maxHeartbeats 1000000
namespace FbL
open PySem PySem.Spec PyProof.Rows L2 Fb TL
def numI (i : Int) : Str := Str.ofString (toString i)
structure NumOk (i : Int) : Prop where
  ge : 0 ≤ i
  lt : i < 10000000000000000000
theorem numI_tl {i : Int} (h : 0 ≤ i) : tl (numI i) = numL i.toNat := by
  unfold numI
  have : i = (i.toNat : Int) := by omega
  rw [this, tl_num, Int.toNat_natCast]
theorem NumOk.len {i : Int} (h : NumOk i) : (numI i).length ≤ 19 := by
  rw [len_tl, numI_tl h.ge]
  exact numL_len (by decide) (by have := h.lt; have := h.ge; omega)
theorem NumOk.one {i : Int} (h : NumOk i) : 1 ≤ (numI i).length := by
  rw [len_tl, numI_tl h.ge]
  exact List.length_pos_iff.mpr (numL_ne _)
theorem NumOk.digits {i : Int} (h : NumOk i) : ∀ c ∈ (numI i).cps.toList, 48 ≤ c ∧ c ≤ 57 := by
  intro c hc
  have := numL_digits i.toNat c (by rw [← numI_tl h.ge]; exact hc)
  omega
theorem NumOk.free {i : Int} (h : NumOk i) {s : Nat} (hs : s < 48 ∨ 57 < s) : s ∉ tl (numI i) := by
  rw [numI_tl h.ge]; exact numL_free hs
theorem NumOk.sok {i : Int} (h : NumOk i) : sOk (numI i) = true := by
  show (numI i).cps.all (fun c => decide (c < 0x110000)) = true
  rw [← Array.all_toList, List.all_eq_true]
  intro c hc
  have := h.digits c hc
  exact decide_eq_true (by omega)
theorem NumOk.str {i : Int} (h : NumOk i) : strD (.int i) = some (.str (numI i)) := by
  show (if i.natAbs.log2 < 1920 then some (D.str (toString i)) else none) = _
  have : i.natAbs.log2 < 1920 := by
    by_cases z : i.natAbs = 0
    · rw [z]; decide
    · refine Nat.lt_of_lt_of_le ((Nat.log2_lt z).mpr (show i.natAbs < 2 ^ 64 by have := h.lt; have := h.ge; omega)) (by decide)
  rw [if_pos this]; rfl
end FbL
end

section
set_option Elab.async false
set_option linter.all false
set_option maxRecDepth 100000
set_option maxHeartbeats 1000000
namespace FbL
open PySem PySem.Spec PyProof.Rows L2 Fb TL
def endsW : Option (Int × Int) → List Str
  | none => ["-"]
  | some (a, b) => [numI a, numI b]
def wordsP (p : Per) : List Str := "person" :: p.nm :: numI p.w :: numI p.s :: endsW p.sp
def wordsM (m : Met) : List Str := ["meet", numI m.day, m.one, m.other]
structure PerT (p : Per) : Prop where
  nm : nameOk p.nm = true
  w : NumOk p.w
  s : NumOk p.s
  sp : ∀ a b, p.sp = some (a, b) → NumOk a ∧ NumOk b
structure MetT (m : Met) : Prop where
  day : NumOk m.day
  one : nameOk m.one = true
  other : nameOk m.other = true
theorem not_self {x : Str} (h : sOk x = true) : gEq true (.str x) (.str x) = W.ret (.bl false) := by
  rw [eq_str true h h, beq_self_eq_true]; rfl
end FbL
end

section
set_option Elab.async false
set_option linter.all false
set_option maxRecDepth 100000
set_option maxHeartbeats 1000000
namespace FbL
open PySem PySem.Spec PyProof.Rows L2 Fb TL
theorem sum_le {α : Type} {f : α → Nat} {B : Nat} : ∀ {l : List α}, (∀ a ∈ l, f a ≤ B) → (l.map f).sum ≤ l.length * B
  | [], _ => by simp
  | a :: l, h => by
    rw [List.map_cons, List.sum_cons, List.length_cons, Nat.add_mul, Nat.one_mul]
    have := sum_le (l := l) (f := f) (B := B) fun z hz => h z (List.mem_cons_of_mem _ hz)
    have := h a List.mem_cons_self
    omega
theorem mem_joinL {S : List Nat} {c : Nat} : ∀ {parts : List (List Nat)}, c ∈ joinL S parts → c ∈ S ∨ ∃ p ∈ parts, c ∈ p
  | [], h => nomatch h
  | [p], h => .inr ⟨p, List.mem_singleton.mpr rfl, h⟩
  | p :: q :: r, h => by
    rcases List.mem_append.mp (show c ∈ p ++ (S ++ joinL S (q :: r)) from h) with h | h
    · exact .inr ⟨p, List.mem_cons_self, h⟩
    · rcases List.mem_append.mp h with h | h
      · exact .inl h
      · rcases mem_joinL h with h | ⟨z, hz, h⟩
        · exact .inl h
        · exact .inr ⟨z, List.mem_cons_of_mem _ hz, h⟩
theorem len_joinL {S : List Nat} : ∀ parts : List (List Nat), (joinL S parts).length ≤ (parts.map List.length).sum + parts.length * S.length
  | [] => by simp [joinL]
  | [p] => by simp [joinL]
  | p :: q :: r => by
    have := len_joinL (S := S) (q :: r)
    show (p ++ (S ++ joinL S (q :: r))).length ≤ _
    rw [List.length_append, List.length_append, List.map_cons, List.sum_cons, List.length_cons, Nat.add_mul, Nat.one_mul]
    omega
theorem len_join (y : Str) (parts : List Str) : (Txt.join y parts).length ≤ (parts.map (·.length)).sum + parts.length * y.length := by
  rw [len_tl, join_eq, tl_join]
  refine Nat.le_trans (len_joinL _) ?_
  rw [List.map_map, List.length_map, len_tl y]
  exact Nat.add_le_add_right (Nat.le_of_eq (congrArg List.sum (List.map_congr_left fun a _ => (len_tl a).symm))) _
/-! ### words -/
theorem name_sign {x : Str} (h : nameOk x = true) : ∀ c ∈ tl x, 97 ≤ c ∧ c ≤ 122 := by
  unfold nameOk at h
  have h := (Bool.and_eq_true_iff.mp h).2
  rw [List.all_eq_true] at h
  intro c hc
  have := of_decide_eq_true (h c hc)
  have hb : ∀ c ∈ letters.cps.toList, 97 ≤ c ∧ c ≤ 122 := by decide
  exact hb c this
structure Wd1 (x : Str) : Prop where
  no32 : 32 ∉ tl x
  no10 : 10 ∉ tl x
  len : x.length ≤ 19
theorem Wd1.name {x : Str} (h : nameOk x = true) : Wd1 x := ⟨fun z => by have := name_sign h 32 z; omega, fun z => by have := name_sign h 10 z; omega, Nat.le_trans (name_len h) (by decide)⟩
theorem Wd1.num {i : Int} (h : NumOk i) : Wd1 (numI i) := ⟨h.free (.inl (by decide)), h.free (.inl (by decide)), h.len⟩
theorem wd_person : Wd1 "person" := ⟨by decide, by decide, by decide⟩
theorem wd_meet : Wd1 "meet" := ⟨by decide, by decide, by decide⟩
theorem wd_bar : Wd1 "-" := ⟨by decide, by decide, by decide⟩
theorem wdsP {p : Per} (h : PerT p) : ∀ x ∈ wordsP p, Wd1 x := by
  obtain ⟨n, w, s, sp⟩ := p
  intro x hx
  rcases sp with _ | ⟨a, b⟩
  · simp only [wordsP, endsW, List.mem_cons, List.not_mem_nil, or_false] at hx
    rcases hx with rfl | rfl | rfl | rfl | rfl
    · exact wd_person
    · exact .name h.nm
    · exact .num h.w
    · exact .num h.s
    · exact wd_bar
  · simp only [wordsP, endsW, List.mem_cons, List.not_mem_nil, or_false] at hx
    rcases hx with rfl | rfl | rfl | rfl | rfl | rfl
    · exact wd_person
    · exact .name h.nm
    · exact .num h.w
    · exact .num h.s
    · exact .num (h.sp a b rfl).1
    · exact .num (h.sp a b rfl).2
theorem wdsM {m : Met} (h : MetT m) : ∀ x ∈ wordsM m, Wd1 x := by
  intro x hx
  simp only [wordsM, List.mem_cons, List.not_mem_nil, or_false] at hx
  rcases hx with rfl | rfl | rfl | rfl
  · exact wd_meet
  · exact .num h.day
  · exact .name h.one
  · exact .name h.other
def lineOf (ws : List Str) : Str := Txt.join " " ws
structure Ln (ws : List Str) : Prop where
  ne : ws ≠ []
  few : ws.length ≤ 6
  wd : ∀ x ∈ ws, Wd1 x
theorem lnP {p : Per} (h : PerT p) : Ln (wordsP p) := ⟨by simp [wordsP], by obtain ⟨n, w, s, _ | ⟨a, b⟩⟩ := p <;> simp [wordsP, endsW], wdsP h⟩
theorem lnM {m : Met} (h : MetT m) : Ln (wordsM m) := ⟨by simp [wordsM], by simp [wordsM], wdsM h⟩
theorem Ln.sum {ws : List Str} (h : Ln ws) : (ws.map (·.length)).sum ≤ 114 := by
  have := sum_le (l := ws) (f := (·.length)) (B := 19) fun x hx => (h.wd x hx).len
  have := h.few
  omega
theorem Ln.len {ws : List Str} (h : Ln ws) : (lineOf ws).length ≤ 120 := by
  have h1 := len_join " " ws
  have := h.sum
  have := h.few
  have e : (" " : Str).length = 1 := rfl
  rw [e, Nat.mul_one] at h1
  unfold lineOf
  omega
theorem Ln.no10 {ws : List Str} (h : Ln ws) : 10 ∉ tl (lineOf ws) := by
  intro z
  unfold lineOf at z
  rw [join_eq, tl_join] at z
  rcases mem_joinL z with z | ⟨p, hp, z⟩
  · exact absurd z (by decide)
  · obtain ⟨x, hx, rfl⟩ := List.mem_map.mp hp
    exact (h.wd x hx).no10 z
theorem Ln.split {ws : List Str} (h : Ln ws) : Txt.split (lineOf ws) " " = ws := split_join (s := 32) (S := []) rfl (by decide +kernel) h.ne fun p hp => (h.wd p hp).no32
/-! ### Plan.read -/
structure TextOk (P : Pl) : Prop where
  ok : P.Ok
  lp : P.ps.length ≤ 1000
  lm : P.ms.length ≤ 1000
  per : ∀ p ∈ P.ps, PerT p
  met : ∀ m ∈ P.ms, MetT m
def linesOf (P : Pl) : List Str := (P.ps.map fun p => lineOf (wordsP p)) ++ P.ms.map fun m => lineOf (wordsM m)
def textOf (P : Pl) : Str := Txt.join "\n" (linesOf P)
theorem TextOk.line {P : Pl} (h : TextOk P) : ∀ x ∈ linesOf P, x.length ≤ 120 ∧ 10 ∉ tl x := by
  intro x hx
  rcases List.mem_append.mp hx with hx | hx
  · obtain ⟨p, hp, rfl⟩ := List.mem_map.mp hx
    exact ⟨(lnP (h.per p hp)).len, (lnP (h.per p hp)).no10⟩
  · obtain ⟨m, hm, rfl⟩ := List.mem_map.mp hx
    exact ⟨(lnM (h.met m hm)).len, (lnM (h.met m hm)).no10⟩
theorem TextOk.sum {P : Pl} (h : TextOk P) : ((linesOf P).map (·.length)).sum + (linesOf P).length * ("\n" : Str).length ≤ 242000 := by
  have h1 := sum_le (l := linesOf P) (f := (·.length)) (B := 120) fun x hx => (h.line x hx).1
  have h2 : (linesOf P).length ≤ 2000 := by
    unfold linesOf
    rw [List.length_append, List.length_map, List.length_map]
    have := h.lp
    have := h.lm
    omega
  have e : ("\n" : Str).length = 1 := rfl
  rw [e]
  omega
theorem TextOk.len {P : Pl} (h : TextOk P) : (textOf P).length ≤ 242000 := Nat.le_trans (len_join _ _) h.sum
theorem TextOk.split {P : Pl} (h : TextOk P) : Txt.split (textOf P) "\n" = linesOf P := split_join (s := 10) (S := []) rfl (by decide +kernel) (fun e => by
  have := h.ok.ne
  unfold linesOf at e
  exact this (List.map_eq_nil_iff.mp (List.append_eq_nil_iff.mp e).1)) fun p hp => (h.line p hp).2
end FbL
end

section
set_option Elab.async false
set_option linter.all false
set_option maxRecDepth 100000
set_option maxHeartbeats 1000000
namespace FbL
open PySem PySem.Spec PyProof.Rows L2 Fb TL
theorem add_lst {x y : List D} (h : x.length + y.length ≤ sizeLine) : gAdd (.lst x) (.lst y) = W.ret (true, .lst (x ++ y)) := by
  show (if x.length + y.length ≤ sizeLine then W.ret (true, D.lst (x ++ y)) else W.fail) = _
  rw [if_pos h]
theorem Ln.fit {ws : List Str} (h : Ln ws) : (ws.map (·.length)).sum + ws.length * (" " : Str).length ≤ 16777216 := by
  have := h.sum
  have := h.few
  have e : (" " : Str).length = 1 := rfl
  rw [e]; omega
theorem len_app (x y : Str) : (x ++ y).length = x.length + y.length := by rw [len_tl, tl_append, List.length_append, ← len_tl, ← len_tl]
theorem Drawn.text {P : Pl} (h : Drawn P) : TextOk P := by
  refine ⟨h.ok, Nat.le_trans h.most (by decide), Nat.le_trans h.few (by decide), fun p hp => ?_, fun m hm => ?_⟩
  · have d := h.per p hp
    exact ⟨seven_ok _ (h.nm _ (List.mem_map_of_mem hp)), ⟨by have := d.w1; omega, by have := d.w3; omega⟩, ⟨d.s0, by have := d.s3; omega⟩, fun a b e => by
      obtain ⟨h1, h2, h3, h4⟩ := d.sp a b e
      exact ⟨⟨h1, by omega⟩, ⟨by omega, by omega⟩⟩⟩
  · obtain ⟨h0, h1, _, h3, h4⟩ := h.met m hm
    exact ⟨⟨h0, by omega⟩, seven_ok _ (h.nm _ h3), seven_ok _ (h.nm _ h4)⟩
end FbL
end

section
set_option Elab.async false
set_option linter.all false
set_option maxRecDepth 100000
set_option maxHeartbeats 1000000
namespace FbL
open PySem PySem.Spec PyProof.Rows L2 Fb TL
abbrev Wl := List (Str × Int)
def wD (ws : Wl) : D := .dic (ws.map fstK)
def grow (found : List Wl) (n : Str) (d : Int) : List Wl := found.map (· ++ [(n, d)])
def daysOf : Option (Int × Int) → List Int
  | none => []
  | some (lo, hi) => (List.range (hi + 1 - lo).toNat).map fun k : Nat => lo + (k : Int)
def wstep (found : List Wl) (p : Per) : List Wl := found ++ (daysOf p.sp).flatMap (grow found p.nm)
def worldsM (ps : List Per) : List Wl := ps.foldl wstep [[]]
theorem mem_daysOf {sp : Option (Int × Int)} {d : Int} : d ∈ daysOf sp ↔ ∃ lo hi, sp = some (lo, hi) ∧ lo ≤ d ∧ d ≤ hi := by
  rcases sp with _ | ⟨lo, hi⟩
  · exact ⟨fun h => (nomatch h), fun ⟨_, _, h, _⟩ => (nomatch h)⟩
  · constructor
    · intro h
      obtain ⟨k, hk, rfl⟩ := List.mem_map.mp h
      have := List.mem_range.mp hk
      exact ⟨lo, hi, rfl, by omega, by omega⟩
    · rintro ⟨_, _, h, h1, h2⟩
      cases h
      exact List.mem_map.mpr ⟨(d - lo).toNat, List.mem_range.mpr (by omega), by omega⟩
end FbL
end

section
set_option Elab.async false
set_option linter.all false
set_option maxRecDepth 100000
set_option maxHeartbeats 1000000
namespace FbL
open PySem PySem.Spec PyProof.Rows L2 Fb TL
structure Sml (p : Per) : Prop where
  few : (daysOf p.sp).length ≤ 4
  rg : ∀ lo hi, p.sp = some (lo, hi) → RgOk lo (hi + 1)
/-- worlds of some of the people: those of done -/
structure WIn (done : List Per) (ws : Wl) : Prop where
  len : ws.length ≤ done.length
  nd : (ws.map (·.1)).Nodup
  ok : ∀ w ∈ ws, ∃ p ∈ done, p.nm = w.1 ∧ ∃ lo hi, p.sp = some (lo, hi) ∧ lo ≤ w.2 ∧ w.2 ≤ hi
theorem WIn.step {done : List Per} {p : Per} (hnd : p.nm ∉ done.map (·.nm)) {found : List Wl} (h : ∀ ws ∈ found, WIn done ws) : ∀ ws ∈ wstep found p, WIn (done ++ [p]) ws := by
  intro ws hws
  rcases List.mem_append.mp hws with hws | hws
  · have i := h ws hws
    exact ⟨by rw [List.length_append]; have := i.len; simp; omega, i.nd, fun w hw => let ⟨q, hq, r⟩ := i.ok w hw; ⟨q, List.mem_append_left _ hq, r⟩⟩
  · obtain ⟨d, hd, hws⟩ := List.mem_flatMap.mp hws
    obtain ⟨ws', hws', rfl⟩ := List.mem_map.mp hws
    have i := h ws' hws'
    refine ⟨by rw [List.length_append, List.length_append]; have := i.len; simp; omega, ?_, fun w hw => ?_⟩
    · rw [List.map_append]
      refine List.nodup_append.mpr ⟨i.nd, (by simp), fun x hx y hy e => ?_⟩
      cases List.mem_singleton.mp hy
      obtain ⟨w, hw, rfl⟩ := List.mem_map.mp hx
      obtain ⟨q, hq, e2, _⟩ := i.ok w hw
      exact hnd (List.mem_map.mpr ⟨q, hq, e2.trans e⟩)
    · rcases List.mem_append.mp hw with hw | hw
      · obtain ⟨q, hq, r⟩ := i.ok w hw
        exact ⟨q, List.mem_append_left _ hq, r⟩
      · cases List.mem_singleton.mp hw
        obtain ⟨lo, hi, e, h1, h2⟩ := mem_daysOf.mp hd
        exact ⟨p, by simp, rfl, lo, hi, e, h1, h2⟩
end FbL
end

section
set_option Elab.async false
set_option linter.all false
set_option maxRecDepth 100000
set_option maxHeartbeats 1000000
namespace FbL
open PySem PySem.Spec PyProof.Rows L2 Fb
theorem leM_gt {x y : Met} (h : y.day < x.day) : leM x y = false := by
  show (!PySem.W.dataLt (.tuple [.int y.day, .str y.one, .str y.other]) (.tuple [.int x.day, .str x.one, .str x.other])) = false
  have : PySem.W.dataLt (.tuple [.int y.day, .str y.one, .str y.other]) (.tuple [.int x.day, .str x.one, .str x.other]) = true := by
    show PyProof.Rows.lexLt itemOrd (PySem.W.keyToksAll _) (PySem.W.keyToksAll _) = true
    rw [PySem.W.dataLt_cons rfl, if_neg (by show ¬ ((y.day == x.day) = true); simp; omega)]
    rw [PySem.W.dataLt_int]
    exact decide_eq_true h
  rw [this]; rfl
theorem sorted_days (ms : List Met) : (ms.mergeSort leM).Pairwise fun a b => a.day ≤ b.day := by
  have hs := PySem.W.sort_pairwise (PySem.W.sortLe_total (listOrd itemOrd) false fun x : Met => PySem.W.keyToks (encD (metD x))) ms
  have hs : (ms.mergeSort leM).Pairwise fun a b => leM a b = true := hs
  refine hs.imp fun {a b} h => ?_
  by_cases z : b.day < a.day
  · rw [leM_gt z] at h; cases h
  · omega
/-! ### days, none behind all -/
abbrev Dy := Str → Option Int
def leO (a b : Option Int) : Prop := ∀ y, b = some y → ∃ x, a = some x ∧ x ≤ y
theorem leO.refl (a : Option Int) : leO a a := fun y h => ⟨y, h, Int.le_refl _⟩
theorem leO.trans {a b c : Option Int} (h : leO a b) (k : leO b c) : leO a c := fun z hz => by
  obtain ⟨y, hy, h1⟩ := k z hz
  obtain ⟨x, hx, h2⟩ := h y hy
  exact ⟨x, hx, Int.le_trans h2 h1⟩
theorem leO.antisymm {a b : Option Int} (h : leO a b) (k : leO b a) : a = b := by
  rcases a with _ | a
  · rcases b with _ | b
    · rfl
    · obtain ⟨x, hx, _⟩ := h b rfl; cases hx
  · obtain ⟨y, hy, h1⟩ := k a rfl
    obtain ⟨x, hx, h2⟩ := h y hy
    cases hx
    rw [hy]
    congr 1; omega
def leF (f g : Dy) : Prop := ∀ n, leO (f n) (g n)
theorem leF.refl (f : Dy) : leF f f := fun n => .refl _
theorem leF.trans {f g h : Dy} (a : leF f g) (b : leF g h) : leF f h := fun n => (a n).trans (b n)
theorem leO_min {a t : Option Int} {d : Int} (h : leO a t) (k : leO a (some d)) : leO a (minM d t) := fun y hy => by
  rcases t with _ | t
  · exact k y hy
  · have : (if t < d then t else d) = y := Option.some.inj hy
    by_cases z : t < d
    · rw [if_pos z] at this
      exact h y (by rw [this])
    · rw [if_neg z] at this
      exact k y (by rw [this])
theorem min_le_day (d : Int) (t : Option Int) : leO (minM d t) (some d) := fun y hy => by
  cases hy
  rcases t with _ | t
  · exact ⟨d, rfl, Int.le_refl _⟩
  · refine ⟨_, rfl, ?_⟩
    split <;> omega
theorem min_le_t (d : Int) (t : Option Int) : leO (minM d t) t := fun y hy => by
  subst hy
  refine ⟨_, rfl, ?_⟩
  split <;> omega
theorem pass_le (g : Option Int) (w d : Int) (t : Option Int) : leO (passM g w d t) t := by
  rcases g with _ | x
  · exact .refl _
  · show leO (if d < x + w then t else minM d t) t
    split
    · exact .refl _
    · exact min_le_t d t
theorem pass_day {x w d : Int} (h : x + w ≤ d) (t : Option Int) : leO (passM (some x) w d t) (some d) := by
  show leO (if d < x + w then t else minM d t) (some d)
  rw [if_neg (by omega)]
  exact min_le_day d t
theorem pass_val {g : Option Int} {w d : Int} {t : Option Int} {v : Int} (h : passM g w d t = some v) : t = some v ∨ v = d := by
  rcases g with _ | x
  · exact .inl h
  · have h : (if d < x + w then t else minM d t) = some v := h
    split at h
    · exact .inl h
    · rcases t with _ | t
      · cases h; exact .inr rfl
      · have : (if t < d then t else d) = v := Option.some.inj h
        split at this
        · exact .inl (by rw [this])
        · exact .inr this.symm
variable {wt : Str → Int}
theorem step_one (f : Dy) (m : Met) : stepM wt f m m.one = passM (f m.other) (wt m.other) m.day (f m.one) := if_pos rfl
theorem step_other (f : Dy) (m : Met) (h : m.other ≠ m.one) : stepM wt f m m.other = passM (f m.one) (wt m.one) m.day (f m.other) := (if_neg h).trans (if_pos rfl)
theorem step_else (f : Dy) (m : Met) {n : Str} (h1 : n ≠ m.one) (h2 : n ≠ m.other) : stepM wt f m n = f n := (if_neg h1).trans (if_neg h2)
theorem step_le (f : Dy) (m : Met) : leF (stepM wt f m) f := fun n => by
  by_cases h1 : n = m.one
  · subst h1; rw [step_one]; exact pass_le _ _ _ _
  · by_cases h2 : n = m.other
    · subst h2; rw [step_other f m h1]; exact pass_le _ _ _ _
    · rw [step_else f m h1 h2]; exact .refl _
theorem step_val {f : Dy} {m : Met} {n : Str} {v : Int} (h : stepM wt f m n = some v) : f n = some v ∨ v = m.day := by
  by_cases h1 : n = m.one
  · subst h1; rw [step_one] at h; exact pass_val h
  · by_cases h2 : n = m.other
    · subst h2; rw [step_other f m h1] at h; exact pass_val h
    · rw [step_else f m h1 h2] at h; exact .inl h
theorem fold_le : ∀ (l : List Met) (f : Dy), leF (l.foldl (stepM wt) f) f
  | [], f => .refl f
  | m :: l, f => (fold_le l (stepM wt f m)).trans (step_le f m)
theorem fold_val : ∀ (l : List Met) (f : Dy) {n : Str} {v : Int}, l.foldl (stepM wt) f n = some v → f n = some v ∨ ∃ m ∈ l, v = m.day
  | [], f, n, v, h => .inl h
  | m :: l, f, n, v, h => by
    rcases fold_val l (stepM wt f m) h with h | ⟨m', hm, e⟩
    · rcases step_val h with h | h
      · exact .inl h
      · exact .inr ⟨m, List.mem_cons_self, h⟩
    · exact .inr ⟨m', List.mem_cons_of_mem _ hm, e⟩
/-- who gives to whom -/
def pairs (m : Met) : List (Str × Str) := [(m.one, m.other), (m.other, m.one)]
/-- nothing falls any more -/
def Closed (wt : Str → Int) (ms : List Met) (S : Dy) : Prop := ∀ m ∈ ms, ∀ q ∈ pairs m, ∀ v, S q.1 = some v → v + wt q.1 ≤ m.day → leO (S q.2) (some m.day)
theorem fold_closed : ∀ (l : List Met) (f : Dy), l.Pairwise (fun a b => a.day ≤ b.day) → (∀ m ∈ l, m.one ≠ m.other ∧ 1 ≤ wt m.one ∧ 1 ≤ wt m.other) → Closed wt l (l.foldl (stepM wt) f)
  | [], f, _, _ => fun m hm => nomatch hm
  | m :: l, f, hp, hw => by
    have hpc := List.pairwise_cons.mp hp
    have ih := fold_closed l (stepM wt f m) hpc.2 fun z hz => hw z (List.mem_cons_of_mem _ hz)
    intro m' hm' q hq v hv hd
    rcases List.mem_cons.mp hm' with rfl | hm'
    · obtain ⟨hne, w1, w2⟩ := hw m' List.mem_cons_self
      have hw' : 1 ≤ wt q.1 := by
        simp only [pairs, List.mem_cons, List.not_mem_nil, or_false] at hq
        rcases hq with rfl | rfl
        · exact w1
        · exact w2
      have h1 : stepM wt f m' q.1 = some v := by
        rcases fold_val l (stepM wt f m') hv with h | ⟨m2, hm2, e⟩
        · exact h
        · have := hpc.1 m2 hm2
          omega
      have h2 : f q.1 = some v := by
        rcases step_val h1 with h | h
        · exact h
        · omega
      refine (fold_le l (stepM wt f m') q.2).trans ?_
      simp only [pairs, List.mem_cons, List.not_mem_nil, or_false] at hq
      rcases hq with rfl | rfl
      · show leO (stepM wt f m' m'.other) _
        rw [step_other f m' hne.symm, show f m'.one = some v from h2]
        exact pass_day hd _
      · show leO (stepM wt f m' m'.one) _
        rw [step_one, show f m'.other = some v from h2]
        exact pass_day hd _
    · exact ih m' hm' q hq v hv hd
/-! ### going over the meetings -/
def ableB (w on : Int) : Option Int → Bool
  | none => false
  | some v => decide (v + w ≤ on)
def lateB (on : Int) : Option Int → Bool
  | none => true
  | some v => decide (on < v)
def giveM (wt : Str → Int) (on : Int) (f : Dy) (q : Str × Str) : Dy := if (ableB (wt q.1) on (f q.1) && lateB on (f q.2)) = true then upd1 f q.2 (some on) else f
theorem give_le (on : Int) (f : Dy) (q : Str × Str) : leF (giveM wt on f q) f := fun n => by
  unfold giveM
  split
  · rename_i h
    unfold upd1
    split
    · rename_i e
      subst e
      intro y hy
      rw [hy] at h
      have := of_decide_eq_true (Bool.and_eq_true_iff.mp h).2
      exact ⟨on, rfl, by omega⟩
    · exact .refl _
  · exact .refl _
theorem give_able {on : Int} {f : Dy} {q : Str × Str} {v : Int} (h : f q.1 = some v) (hv : v + wt q.1 ≤ on) : leO (giveM wt on f q q.2) (some on) := by
  unfold giveM
  rw [h]
  rw [show ableB (wt q.1) on (some v) = true from decide_eq_true hv, Bool.true_and]
  rcases e : f q.2 with _ | u
  · show leO (upd1 f q.2 (some on) q.2) _
    unfold upd1
    rw [if_pos rfl]
    exact .refl _
  · show leO ((if decide (on < u) = true then upd1 f q.2 (some on) else f) q.2) _
    split
    · unfold upd1
      rw [if_pos rfl]
      exact .refl _
    · rename_i z
      have : ¬ on < u := fun y => z (decide_eq_true y)
      rw [e]
      intro y hy
      cases hy
      exact ⟨u, rfl, by omega⟩
theorem give_above {on : Int} {f S : Dy} {q : Str × Str} (h : leF S f) (hc : ∀ v, S q.1 = some v → v + wt q.1 ≤ on → leO (S q.2) (some on)) : leF S (giveM wt on f q) := fun n => by
  unfold giveM
  split
  · rename_i z
    unfold upd1
    split
    · rename_i e
      subst e
      rcases e : f q.1 with _ | v
      · rw [e] at z; cases z
      · rw [e] at z
        have z := of_decide_eq_true (Bool.and_eq_true_iff.mp z).1
        obtain ⟨x, hx, hxv⟩ := h q.1 v e
        exact hc x hx (by omega)
    · exact h n
  · exact h n
def metM (wt : Str → Int) (f : Dy) (m : Met) : Dy := (pairs m).foldl (giveM wt m.day) f
def roundM (wt : Str → Int) (ms : List Met) (f : Dy) : Dy := ms.foldl (metM wt) f
def roundsM (wt : Str → Int) (ms : List Met) : Nat → Dy → Dy
  | 0, f => f
  | n + 1, f => roundsM wt ms n (roundM wt ms f)
theorem met_le (f : Dy) (m : Met) : leF (metM wt f m) f := (give_le _ _ _).trans (give_le _ _ _)
theorem round_le : ∀ (ms : List Met) (f : Dy), leF (roundM wt ms f) f
  | [], f => .refl f
  | m :: ms, f => (round_le ms (metM wt f m)).trans (met_le f m)
theorem leO_pass {a : Option Int} {g t : Option Int} {w d : Int} (h : leO a t) (k : ∀ x, g = some x → x + w ≤ d → leO a (some d)) : leO a (passM g w d t) := by
  rcases g with _ | x
  · exact h
  · show leO a (if d < x + w then t else minM d t)
    split
    · exact h
    · exact leO_min h (k x rfl (by omega))
theorem met_step {f g : Dy} {m : Met} (h : leF f g) : leF (metM wt f m) (stepM wt g m) := fun n => by
  have k1 : leF (giveM wt m.day f (m.one, m.other)) g := (give_le _ _ _).trans h
  by_cases h1 : n = m.one
  · subst h1
    rw [step_one]
    refine leO_pass (((met_le f m).trans h) _) fun x hx hd => ?_
    obtain ⟨y, hy, hyx⟩ := k1 m.other x hx
    exact give_able (q := (m.other, m.one)) hy (show y + wt m.other ≤ m.day by omega)
  · by_cases h2 : n = m.other
    · subst h2
      rw [step_other g m h1]
      refine leO_pass (((met_le f m).trans h) _) fun x hx hd => ?_
      obtain ⟨y, hy, hyx⟩ := h m.one x hx
      exact (give_le _ _ _ _).trans (give_able (q := (m.one, m.other)) hy (show y + wt m.one ≤ m.day by omega))
    · rw [step_else g m h1 h2]
      exact ((met_le f m).trans h) n
theorem round_step {ms : List Met} {f g : Dy} {m : Met} (hm : m ∈ ms) (h : leF f g) : leF (roundM wt ms f) (stepM wt g m) := by
  induction ms generalizing f with
  | nil => cases hm
  | cons a ms ih =>
    rcases List.mem_cons.mp hm with rfl | hm
    · exact (round_le ms (metM wt f m)).trans (met_step h)
    · exact ih hm ((met_le f a).trans h)
theorem rounds_le (ms : List Met) : ∀ (n : Nat) (f : Dy), leF (roundsM wt ms n f) f
  | 0, f => .refl f
  | n + 1, f => (rounds_le ms n _).trans (round_le ms f)
theorem rounds_fold {ms : List Met} : ∀ (l : List Met) (k : Nat) (f g : Dy), (∀ m ∈ l, m ∈ ms) → leF f g → l.length ≤ k → leF (roundsM wt ms k f) (l.foldl (stepM wt) g)
  | [], k, f, g, _, h, _ => (rounds_le ms k f).trans h
  | m :: l, 0, f, g, _, _, hk => by simp at hk
  | m :: l, k + 1, f, g, hm, h, hk => rounds_fold l k (roundM wt ms f) (stepM wt g m) (fun z hz => hm z (List.mem_cons_of_mem _ hz)) (round_step (hm m List.mem_cons_self) h) (by simpa using hk)
theorem met_above {ms : List Met} {f S : Dy} {m : Met} (hc : Closed wt ms S) (hm : m ∈ ms) (h : leF S f) : leF S (metM wt f m) :=
  give_above (give_above h fun v hv hd => hc m hm (m.one, m.other) (by simp [pairs]) v hv hd) fun v hv hd => hc m hm (m.other, m.one) (by simp [pairs]) v hv hd
theorem round_above {ms : List Met} {S : Dy} (hc : Closed wt ms S) : ∀ (l : List Met) (f : Dy), (∀ m ∈ l, m ∈ ms) → leF S f → leF S (roundM wt l f)
  | [], f, _, h => h
  | m :: l, f, hl, h => round_above hc l (metM wt f m) (fun z hz => hl z (List.mem_cons_of_mem _ hz)) (met_above hc (hl m List.mem_cons_self) h)
theorem rounds_above {ms : List Met} {S : Dy} (hc : Closed wt ms S) : ∀ (k : Nat) (f : Dy), leF S f → leF S (roundsM wt ms k f)
  | 0, f, h => h
  | k + 1, f, h => rounds_above hc k (roundM wt ms f) (round_above hc ms f (fun _ z => z) h)
theorem rounds_eq {ms : List Met} (hw : ∀ m ∈ ms, m.one ≠ m.other ∧ 1 ≤ wt m.one ∧ 1 ≤ wt m.other) (k : Nat) (hk : ms.length ≤ k) (f : Dy) : roundsM wt ms k f = (ms.mergeSort leM).foldl (stepM wt) f := by
  have hp := List.mergeSort_perm ms leM
  have hc : Closed wt ms ((ms.mergeSort leM).foldl (stepM wt) f) := fun m hm => fold_closed (ms.mergeSort leM) f (sorted_days ms) (fun z hz => hw z (hp.mem_iff.mp hz)) m (hp.mem_iff.mpr hm)
  funext n
  refine leO.antisymm ?_ ?_
  · exact rounds_fold (ms := ms) (ms.mergeSort leM) k f f (fun m hm => hp.mem_iff.mp hm) (.refl f) (by rw [hp.length_eq]; exact hk) n
  · exact rounds_above hc k f (fold_le _ f) n
end FbL
end

section
set_option Elab.async false
set_option linter.all false
set_option maxRecDepth 100000
set_option maxHeartbeats 1000000
namespace FbL
open PySem PySem.Spec PyProof.Rows L2 Fb TL
variable {A F : D} {ns : List Str} {wk : List (Key × D)} {wt : Str → Int}
end FbL
end

section
set_option Elab.async false
set_option linter.all false
set_option maxRecDepth 100000
set_option maxHeartbeats 1000000
namespace FbL
open PySem PySem.Spec PyProof.Rows L2 Fb TL
/-! ### slots that are not known -/
/-! ### repr of lists and tuples of small things -/
structure Atom (p : PyData) : Prop where
  sh : p.showable = true
  hd : p.hasDict = false
  dp : p.depth = 0
  sok : sOk p.shown = true
  len : p.shown.length ≤ 40
theorem sok_iff {x : Str} : sOk x = true ↔ ∀ c ∈ tl x, c < 0x110000 := by
  show x.cps.all (fun c => decide (c < 0x110000)) = true ↔ _
  rw [← Array.all_toList, List.all_eq_true]
  exact ⟨fun h c hc => of_decide_eq_true (h c hc), fun h c hc => decide_eq_true (h c hc)⟩
theorem sok_app {x y : Str} (hx : sOk x = true) (hy : sOk y = true) : sOk (x ++ y) = true := by
  rw [sok_iff] at *
  intro c hc
  rw [tl_append] at hc
  exact (List.mem_append.mp hc).elim (hx c) (hy c)
theorem sok_joined {y : Str} {ts : List Str} (hy : sOk y = true) (h : ∀ t ∈ ts, sOk t = true) : sOk (Str.join y ts) = true := by
  rw [sok_iff] at *
  intro c hc
  rw [tl_join] at hc
  rcases mem_joinL hc with hc | ⟨p, hp, hc⟩
  · exact hy c hc
  · obtain ⟨t, ht, rfl⟩ := List.mem_map.mp hp
    exact sok_iff.mp (h t ht) c hc
theorem shownAll_map : ∀ l : List PyData, PyData.shownAll l = l.map PyData.shown
  | [] => rfl
  | x :: l => by
    show x.shown :: PyData.shownAll l = _
    rw [shownAll_map l]; rfl
theorem showableAll_of : ∀ {l : List PyData}, (∀ p ∈ l, p.showable = true) → PyData.showableAll l = true
  | [], _ => rfl
  | x :: l, h => by
    show (x.showable && PyData.showableAll l) = true
    rw [h x List.mem_cons_self, showableAll_of fun z hz => h z (List.mem_cons_of_mem _ hz)]; rfl
theorem hasDictAll_of : ∀ {l : List PyData}, (∀ p ∈ l, p.hasDict = false) → PyData.hasDictAll l = false
  | [], _ => rfl
  | x :: l, h => by
    show (x.hasDict || PyData.hasDictAll l) = false
    rw [h x List.mem_cons_self, hasDictAll_of fun z hz => h z (List.mem_cons_of_mem _ hz)]; rfl
/-- things that have a text of repr -/
structure Shows (p : PyData) (n : Nat) : Prop where
  sh : p.showable = true
  hd : p.hasDict = false
  dp : p.depth ≤ n
  sok : sOk p.shown = true
end FbL
end

section
set_option Elab.async false
set_option linter.all false
set_option maxRecDepth 100000
set_option maxHeartbeats 1000000
namespace FbL
open PySem PySem.Spec PyProof.Rows L2 Fb TL
theorem eq_same {d : D} {p : PyData} (h : d.py = some p) (hc : p.canLay0 = true) (hd : p.depth ≤ 64) (neg : Bool) : gEq neg d d = W.ret (.bl (true != neg)) := by
  have hs : SeqAt.shaped p = true := by
    show (p.canLay0 && decide (p.depth ≤ 64)) = true
    rw [hc, decide_eq_true hd]; rfl
  have : D.deq d d = some true := by
    unfold D.deq
    rw [h]
    show (if SeqAt.shaped p = true ∧ SeqAt.shaped p = true then some (PyData.eqv p p) else none) = _
    rw [if_pos ⟨hs, hs⟩, PySem.SeqAt.eqv_refl p hc]
  unfold gEq
  rw [this]
theorem eq_sameL {l : List D} {ps : List PyData} (h : D.pys l = some ps) (hs : ∀ p ∈ ps, p.canLay0 = true ∧ p.depth ≤ 60) (neg : Bool) : gEq neg (.lst l) (.lst l) = W.ret (.bl (true != neg)) := by
  refine eq_same (p := .list ps) (by show (D.pys l).map PyData.list = _; rw [h]; rfl) (canLay_all fun d hd => (hs d hd).1) ?_ neg
  show PyData.depthAll ps + 1 ≤ 64
  have := depth_all fun d hd => (hs d hd).2
  omega
/-! ### the first steps of a turn -/
theorem Drawn.sz {P : Pl} (h : Drawn P) : P.ps.length < sizeLine := Nat.lt_of_lt_of_le (show P.ps.length < 1000 by have := h.most; omega) sizeLine_ge
theorem Pl.Ok.wait {P : Pl} (h : P.Ok) {n : Str} (hn : n ∈ P.names) : 1 ≤ waitOf P.ps n := by
  obtain ⟨p, e, hp, _⟩ := perOf_mem hn
  have := h.per p hp
  unfold perOk at this
  have := of_decide_eq_true (Bool.and_eq_true_iff.mp (Bool.and_eq_true_iff.mp this).2).1
  unfold waitOf
  rw [e]; exact this
theorem Pl.Ok.mets {P : Pl} (h : P.Ok) : ∀ m ∈ P.ms, m.one ≠ m.other ∧ m.one ∈ P.names ∧ m.other ∈ P.names := fun m hm => by
  have := h.met m hm
  unfold metOk at this
  have h0 := (Bool.and_eq_true_iff.mp this).2
  have h1 := (Bool.and_eq_true_iff.mp h0).2
  have h3 := (Bool.and_eq_true_iff.mp (Bool.and_eq_true_iff.mp h0).1).2
  obtain ⟨h1, h2⟩ := Bool.and_eq_true_iff.mp h1
  obtain ⟨x, hx, e⟩ := List.any_eq_true.mp h1
  obtain ⟨y, hy, e2⟩ := List.any_eq_true.mp h2
  rw [← eq_of_beq e, ← eq_of_beq e2]
  refine ⟨fun z => ?_, hx, hy⟩
  rw [← eq_of_beq e, ← eq_of_beq e2, z, beq_self_eq_true] at h3
  cases h3
end FbL
end

section
set_option Elab.async false
set_option linter.all false
set_option maxRecDepth 100000
set_option maxHeartbeats 4000000
namespace FbL
open PySem PySem.Spec PyProof.Rows L2 Fb
/-! ### place -/
/-! ### looks -/
structure Lk where
  day : Int
  nm : Str
  sh : Bool
def lookD (l : Lk) : D := .tup [.int l.day, .str l.nm, .bl l.sh]
/-- whether a look holds by days -/
def holdsM (P : Pl) (g : Str → Option Int) (l : Lk) : Bool := match perOf P.ps l.nm with
  | some p => l.sh == inLot g (·.s) l.day p
  | none => false
theorem eq_bl (a b : Bool) : gEq false (.bl a) (.bl b) = W.ret (.bl (a == b)) := by cases a <;> cases b <;> rfl
structure LkOk (P : Pl) (l : Lk) : Prop where
  day : 0 ≤ l.day
  nm : l.nm ∈ P.names
end FbL
end

section
set_option Elab.async false
set_option linter.all false
set_option maxRecDepth 100000
set_option maxHeartbeats 1000000
namespace FbL
open PySem PySem.Spec PyProof.Rows L2 Fb TL
def showsM (P : Pl) (g : Dy) (n : Str) (on : Int) : Bool := match perOf P.ps n with
  | some p => inLot g (·.s) on p
  | none => false
end FbL
end

section
set_option Elab.async false
set_option linter.all false
set_option maxRecDepth 100000
set_option maxHeartbeats 1000000
namespace FbL
open PySem PySem.Spec PyProof.Rows L2 Fb TL
theorem shows_holds {P : Pl} (g : Dy) {l : Lk} (hn : l.nm ∈ P.names) : (showsM P g l.nm l.day != l.sh) = !holdsM P g l := by
  obtain ⟨p, e, hp, en⟩ := perOf_mem hn
  unfold showsM holdsM
  rw [e]
  show (inLot g (·.s) l.day p != l.sh) = !(l.sh == inLot g (·.s) l.day p)
  generalize inLot g (·.s) l.day p = b
  cases b <;> cases l.sh <;> rfl
theorem ne_bl (a b : Bool) : gEq true (.bl a) (.bl b) = W.ret (.bl (a != b)) := by cases a <;> cases b <;> rfl
theorem pys_ints (is : List Int) : D.pys (is.map D.int) = some (is.map PyData.int) := pys_map D.int PyData.int (fun _ => rfl) is
theorem eq_nil {is : List Int} : gEq false (.lst (is.map D.int)) (.lst []) = W.ret (.bl (((is.map D.int).length : Int) == 0)) := by
  have py : (D.lst (is.map D.int)).py = some (.list (is.map PyData.int)) := by
    show (D.pys (is.map D.int)).map PyData.list = _
    rw [pys_ints]; rfl
  have hs : SeqAt.shaped (.list (is.map PyData.int)) = true := (shaped_list fun p hp => by
    obtain ⟨i, _, rfl⟩ := List.mem_map.mp hp
    exact ⟨rfl, Nat.zero_le _⟩).1
  have : D.deq (.lst (is.map D.int)) (.lst []) = some (((is.map D.int).length : Int) == 0) := by
    unfold D.deq
    rw [py]
    show (if SeqAt.shaped (.list (is.map PyData.int)) = true ∧ SeqAt.shaped (.list []) = true then some (PyData.eqvAll (is.map PyData.int) []) else none) = _
    rw [if_pos ⟨hs, rfl⟩]
    cases is with
    | nil => rfl
    | cons a l => 
      show some false = _
      rw [List.map_cons, List.length_cons]
      refine congrArg some (Eq.symm (beq_eq_false_iff_ne.mpr ?_))
      omega
  unfold gEq
  rw [this]
  show W.ret (D.bl (_ != false)) = _
  rw [Bool.bne_false]
end FbL
end

section
set_option Elab.async false
set_option linter.all false
set_option maxRecDepth 100000
set_option maxHeartbeats 1000000
namespace FbL
open PySem PySem.Spec PyProof.Rows L2 Fb TL
def le0 : En → WS := (mIf (mOr (mTest (mOp (gIs false) (mVar 0) (mC .non))) (mTest (mOp (gIs false) (mVar 1) (mC .non)))) (mRet (mDr (mIfE (mTest (mOp (gIs false) (mVar 0) (mC .non))) (mVar 1) (mVar 0)))) mSkip)
def le1 : En → WS := (mRet (mDr (mIfE (mTest (mOp gLt (mVar 0) (mVar 1))) (mVar 0) (mVar 1))))
def le : En → WS := mSeq le0 le1
def lt0 : En → WS := (mRet (mDr (mAndV (mOp (gIs true) (mVar 1) (mC .non)) (mOrV (mOp (gIs false) (mVar 0) (mC .non)) (mOp gGt (mVar 0) (mVar 1))))))
def lt : En → WS := lt0
def leastM : Option Int → Option Int → Option Int
  | none, b => b
  | some a, none => some a
  | some a, some b => if a < b then some a else some b
/-! ### the latest days below given ones that no meeting makes fall -/
theorem sinceF_closed {P : Pl} (h : P.Ok) (f : Dy) : Closed (waitOf P.ps) P.ms (daysM P f) := fun m hm => fold_closed (P.ms.mergeSort leM) f (sorted_days P.ms) (fun z hz => by
  have hz := (List.mergeSort_perm P.ms leM).mem_iff.mp hz
  exact ⟨(h.mets z hz).1, h.wait (h.mets z hz).2.1, h.wait (h.mets z hz).2.2⟩) m ((List.mergeSort_perm P.ms leM).mem_iff.mpr hm)
theorem sinceF_le (P : Pl) (f : Dy) : leF (daysM P f) f := fold_le _ f
theorem sinceF_top {P : Pl} (h : P.Ok) {f T : Dy} (hc : Closed (waitOf P.ps) P.ms T) (hT : leF T f) : leF T (daysM P f) := by
  have := rounds_above hc P.ms.length f hT
  rw [rounds_eq (fun m hm => ⟨(h.mets m hm).1, h.wait (h.mets m hm).2.1, h.wait (h.mets m hm).2.2⟩) P.ms.length (Nat.le_refl _) f] at this
  exact this
theorem sinceF_mono {P : Pl} (h : P.Ok) {f g : Dy} (hfg : leF f g) : leF (daysM P f) (daysM P g) := sinceF_top h (sinceF_closed h f) ((sinceF_le P f).trans hfg)
theorem least_l (a b : Option Int) : leO (leastM a b) a := fun y hy => by
  subst hy
  rcases b with _ | b
  · exact ⟨y, rfl, Int.le_refl _⟩
  · show ∃ x, (if y < b then some y else some b) = some x ∧ x ≤ y
    split
    · exact ⟨y, rfl, Int.le_refl _⟩
    · exact ⟨b, rfl, by omega⟩
theorem least_r (a b : Option Int) : leO (leastM a b) b := fun y hy => by
  subst hy
  rcases a with _ | a
  · exact ⟨y, rfl, Int.le_refl _⟩
  · show ∃ x, (if a < y then some a else some y) = some x ∧ x ≤ y
    split
    · exact ⟨a, rfl, by omega⟩
    · exact ⟨y, rfl, Int.le_refl _⟩
theorem least_or (a b : Option Int) : leastM a b = a ∨ leastM a b = b := by
  rcases a with _ | a
  · exact .inr rfl
  · rcases b with _ | b
    · exact .inl rfl
    · show (if a < b then some a else some b) = _ ∨ (if a < b then some a else some b) = _
      split
      · exact .inl rfl
      · exact .inr rfl
theorem least_of {a b c : Option Int} (h : leO c a) (k : leO c b) : leO c (leastM a b) := by
  rcases least_or a b with e | e <;> rw [e] <;> assumption
theorem both_eq {P : Pl} (h : P.Ok) (f g : Dy) : daysM P (fun n => leastM (f n) (g n)) = fun n => leastM (daysM P f n) (daysM P g n) := by
  funext n
  refine leO.antisymm ?_ ?_
  · exact least_of (sinceF_mono h (fun n => least_l (f n) (g n)) n) (sinceF_mono h (fun n => least_r (f n) (g n)) n)
  · refine sinceF_top h (T := fun n => leastM (daysM P f n) (daysM P g n)) (fun m hm q hq v hv hd => ?_) (fun n => ?_) n
    · rcases least_or (daysM P f q.1) (daysM P g q.1) with e | e
      · have := sinceF_closed h f m hm q hq v (e ▸ hv) hd
        exact (least_l _ _).trans this
      · have := sinceF_closed h g m hm q hq v (e ▸ hv) hd
        exact (least_r _ _).trans this
    · exact least_of ((least_l _ _).trans (sinceF_le P f n)) ((least_r _ _).trans (sinceF_le P g n))
end FbL
end

section
set_option Elab.async false
set_option linter.all false
set_option maxRecDepth 100000
set_option maxHeartbeats 1000000
namespace FbL
open PySem PySem.Spec PyProof.Rows L2 Fb TL
/-! ### first ones who begin later -/
/-! ### who is able goes on being so -/
end FbL
end

section
set_option Elab.async false
set_option linter.all false
set_option maxRecDepth 100000
set_option maxHeartbeats 1000000
/-! The runner with equations: slots known, nothing held alone. -/
namespace Fb
open PySem PySem.Spec PyProof.Rows L2 TL FbL
theorem RK.v {n : Nat} {R : Ro} {l : List (Nat × D)} {i : Nat} {d : D} (h : RK n R l) (e : l.lookup i = some d) : mVar i R = W.ret d := by
  unfold mVar; rw [h.get _ _ e]; rfl
/-- nothing known to be held alone -/
def AllF (l : List (Nat × Bool × D)) : Bool := l.all fun x => !x.2.1
theorem AllF.look {l : List (Nat × Bool × D)} (hf : AllF l = true) {i : Nat} {b : Bool} {d : D} (e : l.lookup i = some (b, d)) : b = false := by
  have := List.all_eq_true.mp hf _ (mem_look e)
  simpa using this
theorem frzK_to {fz : List Nat} : ∀ {l : List (Nat × Bool × D)} {i : Nat} {b : Bool} {d : D}, l.lookup i = some (b, d) → ∃ b', (frzK fz l).lookup i = some (b', d)
  | [], _, _, _, h => by simp at h
  | (j, b', d') :: r, i, b, d, h => by
    rw [List.lookup_cons] at h
    show ∃ b'', List.lookup i ((j, (bif fz.contains j then false else b'), d') :: frzK fz r) = some (b'', d)
    rw [List.lookup_cons]
    cases e : (i == j) with
    | true => rw [e] at h; exact ⟨_, by rw [show d' = d from (congrArg Prod.snd (Option.some.inj h))]⟩
    | false => rw [e] at h; exact frzK_to h
theorem EK.asgF {n : Nat} {ρ : En} {l : List (Nat × Bool × D)} (h : EK n ρ l) (hf : AllF l = true) (fz : List Nat) {i : Nat} (hi : i < n) (r : Bool × D) : EK n (Fb.asg fz i r ρ) ((i, false, r.2) :: l) := ⟨(h.asg fz hi r).len, fun j b d e => by
  rw [List.lookup_cons] at e
  cases c : (j == i) with
  | true =>
    rw [c] at e
    have e : (false, r.2) = (b, d) := Option.some.inj e
    obtain ⟨b2, e2, _⟩ := (h.asg fz hi r).get j r.1 r.2 (by rw [List.lookup_cons, c])
    injection e with e1 e3
    subst e1 e3
    exact ⟨b2, e2, fun z => by cases z⟩
  | false =>
    rw [c] at e
    have hb := AllF.look hf e
    obtain ⟨b', e'⟩ := frzK_to (fz := fz) e
    obtain ⟨b2, e2, _⟩ := (h.asg fz hi r).get j b' d (by rw [List.lookup_cons, c]; exact e')
    exact ⟨b2, e2, fun z => by rw [hb] at z; cases z⟩⟩
section
variable {n : Nat} {ρ : En} {l : List (Nat × Bool × D)} {Q : Fl × En → Prop} {E : Ex × En → Prop} {k : En → WS}
theorem q_setF {fz : List Nat} {i : Nat} {r : Bool × D} {Q : En → Prop} (h : EK n ρ l) (hf : AllF l = true) (hi : i < n) (q : ∀ ρ', EK n ρ' ((i, false, r.2) :: l) → Q ρ') : SetK fz i r ρ Q := q _ (h.asgF hf fz hi r)
end
end Fb
end

section
set_option Elab.async false
set_option linter.all false
set_option maxRecDepth 100000
set_option maxHeartbeats 1000000
/-! The runner: what an expression tells for certain. -/
namespace Fb
open PySem PySem.Spec PyProof.Rows L2 TL FbL
/-- .. whether held alone or not -/
def EvD {ε : Type} (m : W ε (Bool × D)) (d : D) : Prop := ∀ (Q : Bool × D → Prop) (E : ε → Prop), (∀ b, Q (b, d)) → m Q E
theorem Ev.d {ε : Type} {m : W ε (Bool × D)} {b : Bool} {d : D} (h : Ev m (b, d)) : EvD m d := fun Q E q => h Q E (q b)
theorem EvD.of {ε : Type} {m : W ε (Bool × D)} {b : Bool} {d : D} (h : m = W.ret (b, d)) : EvD m d := (Ev.of h).d
theorem EvD.go {ε : Type} {m : W ε (Bool × D)} {d : D} (h : EvD m d) {Q : Bool × D → Prop} {E : ε → Prop} (q : ∀ b, Q (b, d)) : m Q E := h Q E q
section
variable {n : Nat} {R : Ro} {l : List (Nat × D)}
theorem RK.e {i : Nat} {d : D} (h : RK n R l) (e : l.lookup i = some d) : Ev (mVar i R) d := .of (h.v e)
theorem e_c (d : D) : Ev (mC d R) d := .of rfl
theorem e_nil : Ev (mNil R) ([] : List D) := .of rfl
theorem e_cons {m : Ro → W Ex D} {k : Ro → W Ex (List D)} {d : D} {ds : List D} (h : Ev (m R) d) (h2 : Ev (k R) ds) : Ev (mCons m k R) (d :: ds) := fun Q E q => r_cons (h _ _ (h2 _ _ q))
theorem e_op {g : D → D → W Ex D} {m k : Ro → W Ex D} {a b d : D} (h : Ev (m R) a) (h2 : Ev (k R) b) (h3 : g a b = W.ret d) : Ev (mOp g m k R) d := fun Q E q => r_op (h _ _ (h2 _ _ (r_eq h3 q)))
theorem e_opR {g : D → D → Rt} {m k : Ro → W Ex D} {a b d : D} {f : Bool} (h : Ev (m R) a) (h2 : Ev (k R) b) (h3 : g a b = W.ret (f, d)) : Ev (mOpR g m k R) (f, d) := fun Q E q => r_opR (h _ _ (h2 _ _ (r_eq h3 q)))
theorem e_test {m : Ro → W Ex D} {b : Bool} (h : Ev (m R) (.bl b)) : Ev (mTest m R) b := fun Q E q => r_test (h _ _ (r_asB q))
theorem e_not {m : Ro → W Ex Bool} {b : Bool} (h : Ev (m R) b) : Ev (mNot m R) (!b) := fun Q E q => r_not (h _ _ q)
theorem e_notV {m : Ro → W Ex D} {b : Bool} (h : Ev (m R) (.bl b)) : Ev (mNotV m R) (.bl (!b)) := fun Q E q => r_notV (h _ _ (r_asB q))
theorem e_and {m k : Ro → W Ex Bool} {a b : Bool} (h : Ev (m R) a) (h2 : a = true → Ev (k R) b) : Ev (mAnd m k R) (a && b) := fun Q E q => r_and (h _ _ (by
  cases a with
  | true => exact r_t (h2 rfl _ _ q)
  | false => exact r_f (r_ret q)))
theorem e_or {m k : Ro → W Ex Bool} {a b : Bool} (h : Ev (m R) a) (h2 : a = false → Ev (k R) b) : Ev (mOr m k R) (a || b) := fun Q E q => r_or (h _ _ (by
  cases a with
  | true => exact r_t (r_ret q)
  | false => exact r_f (h2 rfl _ _ q)))
theorem e_andV {m k : Ro → W Ex D} {a b : Bool} (h : Ev (m R) (.bl a)) (h2 : a = true → Ev (k R) (.bl b)) : Ev (mAndV m k R) (.bl (a && b)) := fun Q E q => r_andV (h _ _ (r_asB (by
  cases a with
  | true => exact r_t (h2 rfl _ _ q)
  | false => exact r_f (r_ret q))))
theorem e_orV {m k : Ro → W Ex D} {a b : Bool} (h : Ev (m R) (.bl a)) (h2 : a = false → Ev (k R) (.bl b)) : Ev (mOrV m k R) (.bl (a || b)) := fun Q E q => r_orV (h _ _ (r_asB (by
  cases a with
  | true => exact r_t (r_ret q)
  | false => exact r_f (h2 rfl _ _ q))))
theorem e_ifE {α : Type} {c : Ro → W Ex Bool} {m k : Ro → W Ex α} {b : Bool} {x y : α} (h : Ev (c R) b) (h1 : b = true → Ev (m R) x) (h2 : b = false → Ev (k R) y) : Ev (mIfE c m k R) (if b = true then x else y) := fun Q E q => r_ifE (h _ _ (by
  cases b with
  | true => exact r_t (h1 rfl _ _ q)
  | false => exact r_f (h2 rfl _ _ q)))
theorem e_tup {m : Ro → W Ex (List D)} {ds : List D} (h : Ev (m R) ds) (hl : ds.length ≤ sizeLine) : Ev (mTup m R) (.tup ds) := fun Q E q => r_tup (h _ _ (r_szd hl (r_ret q)))
theorem e_lst {m : Ro → W Ex (List D)} {ds : List D} (h : Ev (m R) ds) (hl : ds.length ≤ sizeLine) : Ev (mLst m R) (true, .lst ds) := fun Q E q => r_lst (h _ _ (r_szd hl (r_ret q)))
theorem e_de {m : Ro → W Ex (Bool × D)} {d : D} (h : EvD (m R) d) : Ev (mDe m R) d := fun Q E q => r_de (h _ _ fun _ => q)
theorem e_dr {m : Ro → W Ex D} {d : D} (h : Ev (m R) d) : Ev (mDr m R) (false, d) := fun Q E q => r_dr (h _ _ q)
theorem e_call {k : Nat} {sem : List D → Rt} {m : Ro → W Ex (List D)} {ds : List D} {d : D} (h : Ev (m R) ds) (hn : ds.length = k) (hs : EvD (sem ds) d) : EvD (mCall k sem [] m R) d := fun Q E q => r_call (h _ _ (r_callif hn (hs _ _ q)))
theorem e_meth {c mn : Str} {k : Nat} {sem : List D → Rt} {m : Ro → W Ex D} {a : Ro → W Ex (List D)} {d e : D} {ds : List D} {fs : List (Str × D)} (h : Ev (m R) d) (hi : asIns c d = some fs) (hf : fs.lookup mn = none) (ha : Ev (a R) ds) (hn : (d :: ds).length = k) (hs : EvD (sem (d :: ds)) e) : EvD (mMeth c mn k sem [] m a R) e := fun Q E q =>
  r_meth (h _ _ (r_got hi (r_pos hf (r_bind (ha _ _ (r_methif hn (hs _ _ q)))))))
theorem e_fld {c f : Str} {m : Ro → W Ex D} {d e : D} (h : Ev (m R) d) (he : gFld c f d = W.ret e) : Ev (mFld c f m R) e := fun Q E q => r_fld (h _ _ (r_eq he q))
theorem e_blt {g : List D → Rt} {m : Ro → W Ex (List D)} {ds : List D} {f : Bool} {d : D} (h : Ev (m R) ds) (hg : g ds = W.ret (f, d)) : Ev (mBlt g m R) (f, d) := fun Q E q => r_blt (h _ _ (r_eq hg q))
theorem e_walk {m : Ro → W Ex D} {d : D} {ds : List D} (h : Ev (m R) d) (hw : walkD d = W.ret ds) : Ev (mWalk m R) ds := fun Q E q => r_walk (h _ _ (r_eq hw q))
theorem e_star {m : Ro → W Ex D} {k : Ro → W Ex (List D)} {d : D} {xs ds : List D} (h : Ev (m R) d) (ha : asSeq d = W.ret xs) (h2 : Ev (k R) ds) : Ev (mStar m k R) (xs ++ ds) := fun Q E q => r_star (h _ _ (r_eq ha (h2 _ _ q)))
theorem e_lc {α : Type} (enc : α → D) {m : Ro → W Ex (List D)} {vs : List Nat} {p : D → Option (List (Nat × D))} {c : Ro → W Ex Bool} {e : Ro → W Ex D} (bs : α → List (Nat × D)) (t : α → Bool) (f : α → D) (hR : RK n R l) (xs : List α) (hm : Ev (m R) (xs.map enc)) (hl : xs.length ≤ sizeLine)
    (h : ∀ x ∈ xs, Bnd n vs p (enc x) (bs x) ∧ ∀ R', RK n R' (bs x ++ l) → Ev (c R') (t x) ∧ (t x = true → Ev (e R') (f x))) : Ev (mLc m vs p c e R) (true, .lst ((xs.filter t).map f)) := fun Q E q =>
  r_lc (hm _ _ (r_szd (by rw [List.length_map]; exact hl) (r_bind (r_lcN enc bs hR xs h (r_ret q)))))
theorem e_lcY {α : Type} (enc : α → D) {m : Ro → W Ex (List D)} {vs : List Nat} {p : D → Option (List (Nat × D))} {e : Ro → W Ex D} (bs : α → List (Nat × D)) (f : α → D) (hR : RK n R l) (xs : List α) (hm : Ev (m R) (xs.map enc)) (hl : xs.length ≤ sizeLine)
    (h : ∀ x ∈ xs, Bnd n vs p (enc x) (bs x) ∧ ∀ R', RK n R' (bs x ++ l) → Ev (e R') (f x)) : Ev (mLc m vs p mYes e R) (true, .lst (xs.map f)) := fun Q E q =>
  r_lc (hm _ _ (r_szd (by rw [List.length_map]; exact hl) (r_bind (r_lcY enc bs hR xs h (r_ret q)))))
end
section
variable {n : Nat} {ρ : En} {l : List (Nat × Bool × D)} {Q : Fl × En → Prop} {E : Ex × En → Prop} {k : En → WS}
theorem t_set {fz : List Nat} {i : Nat} {m : Ro → W Ex (Bool × D)} {d : D} (h : EK n ρ l) (hf : AllF l = true) (hi : i < n) (hm : ∀ R, RK n R (seeK fz l) → EvD (m R) d) (q : ∀ ρ', EK n ρ' ((i, false, d) :: l) → k ρ' Q E) : mSeq (mSet fz i m) k ρ Q E :=
  r_seq (r_set h fun R hR => (hm R hR).go fun b => q_setF h hf hi q)
theorem t_ifL {m : En → WS} {c : Ro → W Ex Bool} (h : EK n ρ l) (hc : ∀ R, RK n R (roK l) → Ev (c R) false) (q : Q (.nx, ρ)) : mIf c m mSkip ρ Q E :=
  r_if h fun R hR => hc R hR _ _ (r_f (r_skip q))
theorem t_ret {m : Ro → W Ex (Bool × D)} {d : D} (h : EK n ρ l) (hm : ∀ R, RK n R (roK l) → EvD (m R) d) (q : ∀ b, Q (.rt (b, d), ρ)) : mRet m ρ Q E := r_retE h fun R hR => (hm R hR).go q
theorem EK.weak {i : Nat} {b : Bool} {d : D} (h : EK n ρ ((i, b, d) :: l)) : EK n ρ ((i, false, d) :: l) := ⟨h.len, fun j b1 d1 e => by
  rw [List.lookup_cons] at e
  cases c : (j == i) with
  | true =>
    rw [c] at e
    injection e with e
    injection e with e1 e2
    subst e1 e2
    obtain ⟨b2, e2, _⟩ := h.get j b d (by rw [List.lookup_cons, c])
    exact ⟨b2, e2, fun z => nomatch z⟩
  | false =>
    rw [c] at e
    exact h.get j b1 d1 (by rw [List.lookup_cons, c]; exact e)⟩
/-- a loop whose turns keep what is known; a turn may end by continue -/
theorem q_for {α : Type} (enc : α → D) {fz : List Nat} {p : D → Option (List (Nat × D))} {b : En → WS} (xs : List α) (bs : α → List (Nat × D)) (h : EK n ρ l) (hf : AllF l = true) (hp : ∀ x ∈ xs, p (enc x) = some (bs x)) (hlt : ∀ x ∈ xs, ((keyL (bs x)).all fun i => decide (i < n)) = true)
    (hb : ∀ x ∈ xs, ∀ ρ', EK n ρ' (((bs x).map fun b => (b.1, false, b.2)).reverse ++ l) → ∀ Q' : Fl × En → Prop, (∀ ρ'', EK n ρ'' l → Q' (.nx, ρ'') ∧ Q' (.ct, ρ'')) → b ρ' Q' E) (q : ∀ ρ', EK n ρ' l → Q (.nx, ρ')) : ForK fz p b (xs.map enc) ρ Q E := by
  refine r_forK enc bs (fun _ _ (_ : Unit) => True) (fun _ => l) () h (fun ρ' h' => ?_) trivial (fun dn x rs _ _ e => ?_) fun _ _ ρ' h' => q ρ' h'
  · exact ⟨h'.len, fun j b d e => by
      have hb := AllF.look hf e
      obtain ⟨b', e'⟩ := frzK_to (fz := fz) e
      obtain ⟨b2, e2, _⟩ := h'.get j b' d e'
      exact ⟨b2, e2, fun z => by rw [hb] at z; cases z⟩⟩
  · have hx : x ∈ xs := by rw [← e]; simp
    exact ⟨hp x hx, hlt x hx, fun ρ' h' Q' hq => hb x hx ρ' h' Q' fun ρ'' h'' => ⟨hq (.nx, ρ'') ⟨(), trivial, h''⟩, hq (.ct, ρ'') ⟨(), trivial, h''⟩⟩⟩
theorem t_for {α : Type} (enc : α → D) {fz : List Nat} {m : Ro → W Ex (List D)} {p : D → Option (List (Nat × D))} {b : En → WS} (xs : List α) (bs : α → List (Nat × D)) (h : EK n ρ l) (hf : AllF l = true) (hm : ∀ R, RK n R (seeK fz l) → Ev (m R) (xs.map enc)) (hp : ∀ x ∈ xs, p (enc x) = some (bs x)) (hlt : ∀ x ∈ xs, ((keyL (bs x)).all fun i => decide (i < n)) = true)
    (hb : ∀ x ∈ xs, ∀ ρ', EK n ρ' (((bs x).map fun b => (b.1, false, b.2)).reverse ++ l) → ∀ Q' : Fl × En → Prop, (∀ ρ'', EK n ρ'' l → Q' (.nx, ρ'') ∧ Q' (.ct, ρ'')) → b ρ' Q' E) (q : ∀ ρ', EK n ρ' l → Q (.nx, ρ')) : mFor fz m p b ρ Q E :=
  r_for h fun R hR => hm R hR _ _ (q_for enc xs bs h hf hp hlt hb q)
end
end Fb
end

section
set_option Elab.async false
set_option linter.all false
set_option maxRecDepth 100000
set_option maxHeartbeats 1000000
namespace FbL
open PySem PySem.Spec PyProof.Rows L2 Fb TL
/-- the first day from lo on, until hi, at which p is so; hi + 1 if none -/
structure FirstD (p : Int → Bool) (lo hi r : Int) : Prop where
  ge : lo ≤ r
  le : r ≤ hi + 1 ∨ r = lo
  no : ∀ d, lo ≤ d → d < r → p d = false
  yes : ∀ d, r ≤ d → d ≤ hi → p d = true
end FbL
end

section
set_option Elab.async false
set_option linter.all false
set_option maxRecDepth 100000
set_option maxHeartbeats 1000000
namespace FbL
open PySem PySem.Spec PyProof.Rows L2 Fb TL
/-! ### the defs that decide, over data -/
def firstN (p : Int → Bool) : Nat → Int → Int
  | 0, lo => lo
  | m + 1, lo => if p lo = true then lo else firstN p m (lo + 1)
def firstI (p : Int → Bool) (lo hi : Int) : Int := firstN p (hi + 1 - lo).toNat lo
def barsM (P : Pl) (ls : List Lk) (f : Dy) : Bool := (ls.filter fun l => !l.sh).all fun l => holdsM P (daysM P f) l
def showsAllM (P : Pl) (ls : List Lk) (f : Dy) : Bool := (ls.filter fun l => l.sh).all fun l => holdsM P (daysM P f) l
section
variable {P : Pl} (ok : P.Ok) (sz : P.ps.length < sizeLine)
include ok sz
end
end FbL
end

section
set_option Elab.async false
set_option linter.all false
set_option maxRecDepth 100000
set_option maxHeartbeats 1000000
namespace FbL
open PySem PySem.Spec PyProof.Rows L2 Fb TL
/-! ### what fits: plain laws -/
def oneF (n : Str) (d : Int) : Dy := fstF [(n, d)]
theorem oneF_at (n : Str) (d : Int) (x : Str) : oneF n d x = if n = x then some d else none := by
  unfold oneF fstF
  rw [List.find?_cons]
  by_cases h : n = x
  · rw [if_pos h, decide_eq_true h]; rfl
  · rw [if_neg h, decide_eq_false h]; rfl
def noF : Dy := fun _ => none
theorem days_none {P : Pl} (ok : P.Ok) : daysM P noF = noF := funext fun n => by
  have := sinceF_top ok (T := noF) (f := noF) (fun m _ q _ v hv => nomatch hv) (fun x y hy => nomatch hy) n
  rcases e : daysM P noF n with _ | v
  · rfl
  · obtain ⟨x, hx, _⟩ := this v e
    cases hx
section
variable {P : Pl} (ok : P.Ok) {ls : List Lk}
include ok
omit ok in
theorem fst_cons {w : Str × Int} {ws : Wl} (h : w.1 ∉ ws.map (·.1)) : fstF (w :: ws) = fun n => leastM (oneF w.1 w.2 n) (fstF ws n) := funext fun n => by
  rw [oneF_at]
  by_cases z : w.1 = n
  · rw [if_pos z]
    have : fstF ws n = none := by
      unfold fstF
      rw [List.find?_eq_none.mpr fun x hx => by
        simp only [decide_eq_true_eq]
        exact fun e => h (by rw [z, ← e]; exact List.mem_map_of_mem hx)]
      rfl
    rw [this]
    unfold fstF
    rw [List.find?_cons, decide_eq_true z]; rfl
  · rw [if_neg z]
    show _ = fstF ws n
    unfold fstF
    rw [List.find?_cons, decide_eq_false z]
end
/-! ### worlds made of choices -/
end FbL
end

section
set_option Elab.async false
set_option linter.all false
set_option maxRecDepth 100000
set_option maxHeartbeats 1000000
namespace FbL
open PySem PySem.Spec PyProof.Rows L2 Fb TL
/-! ### the greatest world, and from when on it does not lead -/
def spansL (ps : List Per) : List (Str × Int × Int) := ps.filterMap fun p => p.sp.map fun s => (p.nm, s.1, s.2)
/-- the picked of names with spans -/
def pickL (pr : Str → Int → Bool) (x : Str × Int × Int) : Option (Str × Int) := if firstI (pr x.1) x.2.1 x.2.2 ≤ x.2.2 then some (x.1, firstI (pr x.1) x.2.1 x.2.2) else none
section
variable {P : Pl} (ok : P.Ok) (sz : P.ps.length < sizeLine)
def leastW (P : Pl) (ls : List Lk) : Wl := (spansL P.ps).filterMap (pickL fun n d => barsM P ls (oneF n d))
include ok sz
end
end FbL
end

section
set_option Elab.async false
set_option linter.all false
set_option maxRecDepth 100000
set_option maxHeartbeats 1000000
namespace FbL
open PySem PySem.Spec PyProof.Rows L2 Fb TL
/-! ### the greatest world: plain laws -/
section
variable {P : Pl} (ok : P.Ok) {ls : List Lk} (hl : ∀ l ∈ ls, l.nm ∈ P.names)
include ok
include hl
omit hl
include hl
end
end FbL
end

section
set_option Elab.async false
set_option linter.all false
set_option maxRecDepth 100000
set_option maxHeartbeats 1000000
namespace FbL
open PySem PySem.Spec PyProof.Rows L2 Fb TL
/-! ### since when possibly, surely -/
section
variable {P : Pl} (ok : P.Ok) (sz : P.ps.length < sizeLine)
include ok
include sz
end
end FbL
end

section
set_option Elab.async false
set_option linter.all false
set_option maxRecDepth 100000
set_option maxHeartbeats 1000000
namespace FbL
open PySem PySem.Spec PyProof.Rows L2 Fb TL
/-! ### a case, what fits it -/
def fitB (P : Pl) (ls : List Lk) (ws : Wl) : Bool := ls.all (holdsM P (sinceM P ws))
def fitsL (P : Pl) (ls : List Lk) : List Wl := (worldsM P.ps).filter (fitB P ls)
def fitD (P : Pl) (ws : Wl) : D := .tup [wD ws, .dic (dayD P.names (sinceM P ws))]
end FbL
end

section
set_option Elab.async false
set_option linter.all false
set_option maxRecDepth 100000
set_option maxHeartbeats 1000000
namespace FbL
open PySem PySem.Spec PyProof.Rows L2 Fb TL
section
variable {P : Pl} (hP : Drawn P) {ls : List Lk} (hl : ∀ l ∈ ls, l.nm ∈ P.names)
include hP hl
end
section
variable {P : Pl} (ok : P.Ok) (sz : P.ps.length < sizeLine)
include ok sz
end
/-! ### what many laws begin with -/
def K2 (ns : List Int) (P : Pl) (ls : List Lk) : List (Nat × Bool × D) := [(7, false, .lst ((fitsL P ls).map (fitD P))), (6, false, plD P), (4, false, toldD P), (5, false, .lst (ls.map lookD)), (2, false, .box 1), (0, false, .scr ns)]
end FbL
end

section
set_option Elab.async false
set_option linter.all false
set_option maxRecDepth 100000
set_option maxHeartbeats 1000000
/-! More of the runner. -/
namespace Fb
open PySem PySem.Spec PyProof.Rows L2 TL FbL
theorem Ev.as {ε α : Type} {m : W ε α} {a b : α} (h : Ev m a) (e : a = b) : Ev m b := e ▸ h
theorem EvD.as {ε : Type} {m : W ε (Bool × D)} {a b : D} (h : EvD m a) (e : a = b) : EvD m b := e ▸ h
/-- some of what is known -/
def subK : List (Nat × Bool × D) → List (Nat × Bool × D) → Prop
  | [], _ => True
  | (i, b, d) :: r, l => (∃ b0, l.lookup i = some (b0, d) ∧ (b = true → b0 = true)) ∧ subK r l
theorem EK.pick {n : Nat} {ρ : En} {l l' : List (Nat × Bool × D)} (h : EK n ρ l) (s : subK l' l) : EK n ρ l' := by
  induction l' with
  | nil => exact EK.nil h.len
  | cons e r ih =>
    obtain ⟨i, b, d⟩ := e
    obtain ⟨⟨b0, e1, e2⟩, s2⟩ := s
    exact EK.cons h e1 e2 (ih s2)
theorem enD_map {α : Type} (enc : α → D) : ∀ (xs : List α) (k : Nat), enD k (xs.map enc) = (xs.zipIdx k).map fun x => .tup [.int (x.2 : Int), enc x.1]
  | [], _ => rfl
  | x :: xs, k => by
    rw [List.map_cons, List.zipIdx_cons, List.map_cons]
    exact congrArg _ (enD_map enc xs (k + 1))
section
variable {n : Nat} {R : Ro} {l : List (Nat × D)}
theorem e_enum {α : Type} (enc : α → D) {m : Ro → W Ex (List D)} {xs : List α} {d : D} (h : Ev (m R) [d]) (hd : walkD d = W.ret (xs.map enc)) (hs : ∃ t, d = wrapD t (xs.map enc)) : Ev (mEnum m R) (xs.zipIdx.map fun x => .tup [.int (x.2 : Int), enc x.1]) := fun Q E q => r_enum (h _ _ (r_eq (a := xs.zipIdx.map fun x => D.tup [.int (x.2 : Int), enc x.1]) (by
  obtain ⟨t, rfl⟩ := hs
  rw [← enD_map enc xs 0]
  cases t <;> rfl) q))
theorem e_rng1 {m : Ro → W Ex (List D)} {k : Nat} (h : Ev (m R) [.int k]) (hk : k ≤ 100000) : Ev (mRng1 m R) ((List.range k).map fun i : Nat => D.int (0 + (i : Int))) := fun Q E q => by
  refine r_rng1 (h _ _ ?_)
  rw [rng1_eq hk]
  exact q
theorem e_ifD {c : Ro → W Ex Bool} {m k : Ro → W Ex (Bool × D)} {b : Bool} {x y : D} (h : Ev (c R) b) (h1 : b = true → EvD (m R) x) (h2 : b = false → EvD (k R) y) : EvD (mIfE c m k R) (if b = true then x else y) := fun Q E q => r_ifE (h _ _ (by
  cases b with
  | true => exact r_t (h1 rfl _ _ q)
  | false => exact r_f (h2 rfl _ _ q)))
theorem e_yes : Ev (mYes R) true := fun Q E q => q
theorem e_part {m : Ro → W Ex D} {i : Int} (h : Ev (m R) (.int i)) : Ev (mPart m R) (some i) := fun Q E q => by
  have : (W.bind (m R) fun d => match d with | .int i => W.ret (some i) | _ => W.fail) Q E := h _ _ q
  exact this
theorem e_nopart : Ev (mNoPart R) none := .of rfl
theorem e_slice {m : Ro → W Ex D} {lo hi : Ro → W Ex (Option Int)} {d e : D} {a b : Option Int} {f : Bool} (h : Ev (m R) d) (h1 : Ev (lo R) a) (h2 : Ev (hi R) b) (h3 : gSl d a b = W.ret (f, e)) : Ev (mSlice m lo hi R) (f, e) := fun Q E q => r_slice (h _ _ (h1 _ _ (h2 _ _ (r_eq h3 q))))
theorem e_fmt {m : Ro → W Ex D} {d e : D} (h : Ev (m R) d) (he : fmtD d = W.ret e) : Ev (mFmt m R) e := fun Q E q => r_bind (h _ _ (r_eq he q))
theorem e_prop {c : Str} {sem : List D → Rt} {m : Ro → W Ex D} {d e : D} {fs : List (Str × D)} (h : Ev (m R) d) (hi : asIns c d = some fs) (hs : EvD (sem [d]) e) : EvD (mProp c sem m R) e := fun Q E q => r_prop (h _ _ (r_got hi (hs _ _ q)))
theorem e_zip {m : Ro → W Ex (List D)} {ds es : List D} (h : Ev (m R) ds) (hz : zippedD ds = W.ret es) : Ev (mZip m R) es := fun Q E q => r_zip (h _ _ (r_eq hz q))
end
section
variable {n : Nat} {ρ : En} {l : List (Nat × Bool × D)} {Q : Fl × En → Prop} {E : Ex × En → Prop} {k : En → WS}
/-- if, its branch told by hand -/
theorem t_ifB {c : Ro → W Ex Bool} {m m2 : En → WS} {b : Bool} (h : EK n ρ l) (hc : ∀ R, RK n R (roK l) → Ev (c R) b) (h1 : b = true → m ρ Q E) (h2 : b = false → m2 ρ Q E) : mIf c m m2 ρ Q E :=
  r_if h fun R hR => hc R hR _ _ (by
    cases b with
    | true => exact r_t (h1 rfl)
    | false => exact r_f (h2 rfl))
end
theorem subK_nil {l : List (Nat × Bool × D)} : subK [] l := trivial
theorem subK_cons {l r : List (Nat × Bool × D)} {i : Nat} {b b0 : Bool} {d : D} (h1 : l.lookup i = some (b0, d)) (h2 : b = true → b0 = true) (h3 : subK r l) : subK ((i, b, d) :: r) l := ⟨⟨b0, h1, h2⟩, h3⟩
section
variable {n : Nat} {ρ : En} {l : List (Nat × Bool × D)} {Q : Fl × En → Prop} {E : Ex × En → Prop} {k : En → WS}
/-! what is told within -/
theorem w_if {c : Ro → W Ex Bool} {m m2 : En → WS} (h : EK n ρ l) (hc : ∀ R, RK n R (roK l) → ∃ b, Ev (c R) b ∧ (b = true → m ρ Q E) ∧ (b = false → m2 ρ Q E)) : mIf c m m2 ρ Q E :=
  r_if h fun R hR => let ⟨b, h0, h1, h2⟩ := hc R hR; h0 _ _ (by
    cases b with
    | true => exact r_t (h1 rfl)
    | false => exact r_f (h2 rfl))
/-- a loop with something that is carried along -/
theorem t_loop {α β : Type} (enc : α → D) {fz : List Nat} {m : Ro → W Ex (List D)} {p : D → Option (List (Nat × D))} {b : En → WS} (xs : List α) (bs : α → List (Nat × D)) (J : List α → β → Prop) (kn : β → List (Nat × Bool × D)) (z : β) (h : EK n ρ l) (hm : ∀ R, RK n R (seeK fz l) → Ev (m R) (xs.map enc))
    (h0 : ∀ ρ', EK n ρ' (frzK fz l) → EK n ρ' (kn z)) (j0 : J [] z) (hp : ∀ x ∈ xs, p (enc x) = some (bs x)) (hlt : ∀ x ∈ xs, ((keyL (bs x)).all fun i => decide (i < n)) = true)
    (hb : ∀ dn x rs z, J dn z → dn ++ x :: rs = xs → x ∈ xs → ∀ ρ', EK n ρ' (((bs x).map fun b => (b.1, false, b.2)).reverse ++ kn z) → ∀ Q' : Fl × En → Prop, (∀ ρ'' z', J (dn ++ [x]) z' → EK n ρ'' (kn z') → Q' (.nx, ρ'') ∧ Q' (.ct, ρ'')) → b ρ' Q' E)
    (q : ∀ ρ' z, J xs z → EK n ρ' (kn z) → Q (.nx, ρ')) : mFor fz m p b ρ Q E := by
  refine r_for h fun R hR => hm R hR _ _ ?_
  refine r_forK enc bs (fun dn _ z => J dn z) kn z h h0 j0 (fun dn x rs z hj e => ?_) fun z hj ρ' h' => q ρ' z hj h'
  have hx : x ∈ xs := by rw [← e]; simp
  exact ⟨hp x hx, hlt x hx, fun ρ' h' Q' hq => hb dn x rs z hj e hx ρ' h' Q' fun ρ'' z' hj' h'' => ⟨hq (.nx, ρ'') ⟨z', hj', h''⟩, hq (.ct, ρ'') ⟨z', hj', h''⟩⟩⟩
end
/-! ### rules as the tactic takes them -/
def Rf {α : Type} (a b : α) : Prop := a = b
theorem evd_id {ε : Type} {m : W ε (Bool × D)} {d : D} (h : EvD m d) : EvD m d := h
theorem op_id {ε α : Type} {a b : W ε α} (h : a = b) : a = b := h
theorem le_id {a b : Nat} (h : a ≤ b) : a ≤ b := h
theorem rk_id {n : Nat} {R : Ro} {l : List (Nat × D)} (h : RK n R l) : RK n R l := h
theorem Rf.of {α : Type} {a b : α} (h : a = b) : Rf a b := h
section
variable {n : Nat} {R : Ro} {l : List (Nat × D)}
theorem v_e {i : Nat} {d : D} (h : RK n R l) (e : Rf (l.lookup i) (some d)) : Ev (mVar i R) d := h.e e
theorem v_lst {m : Ro → W Ex (List D)} {ds : List D} (h : Ev (m R) ds) (hl : ds.length ≤ sizeLine) : EvD (mLst m R) (.lst ds) := (e_lst h hl).d
theorem v_opR {g : D → D → Rt} {m k : Ro → W Ex D} {a b d : D} {f : Bool} (h : Ev (m R) a) (h2 : Ev (k R) b) (h3 : g a b = W.ret (f, d)) : EvD (mOpR g m k R) d := (e_opR h h2 h3).d
theorem v_slice {m : Ro → W Ex D} {lo hi : Ro → W Ex (Option Int)} {d e : D} {a b : Option Int} {f : Bool} (h : Ev (m R) d) (h1 : Ev (lo R) a) (h2 : Ev (hi R) b) (h3 : gSl d a b = W.ret (f, e)) : EvD (mSlice m lo hi R) e := (e_slice h h1 h2 h3).d
theorem v_dr {m : Ro → W Ex D} {d : D} (h : Ev (m R) d) : EvD (mDr m R) d := (e_dr h).d
theorem v_call {k : Nat} {sem : List D → Rt} {m : Ro → W Ex (List D)} {ds : List D} {d : D} (h : Ev (m R) ds) (hn : Rf ds.length k) (hs : EvD (sem ds) d) : EvD (mCall k sem [] m R) d := e_call h hn hs
theorem v_meth {c mn : Str} {k : Nat} {sem : List D → Rt} {m : Ro → W Ex D} {a : Ro → W Ex (List D)} {d e : D} {ds : List D} {fs : List (Str × D)} (h : Ev (m R) d) (hi : Rf (asIns c d) (some fs)) (hf : Rf (fs.lookup mn) none) (ha : Ev (a R) ds) (hn : Rf (d :: ds).length k) (hs : EvD (sem (d :: ds)) e) : EvD (mMeth c mn k sem [] m a R) e := e_meth h hi hf ha hn hs
theorem v_prop {c : Str} {sem : List D → Rt} {m : Ro → W Ex D} {d e : D} {fs : List (Str × D)} (h : Ev (m R) d) (hi : Rf (asIns c d) (some fs)) (hs : EvD (sem [d]) e) : EvD (mProp c sem m R) e := e_prop h hi hs
theorem v_blt {g : List D → Rt} {m : Ro → W Ex (List D)} {ds : List D} {f : Bool} {d : D} (h : Ev (m R) ds) (hg : g ds = W.ret (f, d)) : EvD (mBlt g m R) d := (e_blt h hg).d
theorem v_lc {α : Type} {enc : α → D} {m : Ro → W Ex (List D)} {vs : List Nat} {p : D → Option (List (Nat × D))} {c : Ro → W Ex Bool} {e : Ro → W Ex D} {bs : α → List (Nat × D)} {t : α → Bool} {f : α → D} {xs : List α} (hR : RK n R l) (hm : Ev (m R) (xs.map enc)) (hl : xs.length ≤ sizeLine)
    (hb : ∀ x ∈ xs, Bnd n vs p (enc x) (bs x)) (hc : ∀ x ∈ xs, ∀ R', RK n R' (bs x ++ l) → Ev (c R') (t x)) (he : ∀ x ∈ xs, ∀ R', RK n R' (bs x ++ l) → t x = true → Ev (e R') (f x)) : EvD (mLc m vs p c e R) (.lst ((xs.filter t).map f)) :=
  (e_lc enc bs t f hR xs hm hl fun x hx => ⟨hb x hx, fun R' h' => ⟨hc x hx R' h', he x hx R' h'⟩⟩).d
theorem v_lcY {α : Type} {enc : α → D} {m : Ro → W Ex (List D)} {vs : List Nat} {p : D → Option (List (Nat × D))} {e : Ro → W Ex D} {bs : α → List (Nat × D)} {f : α → D} {xs : List α} (hR : RK n R l) (hm : Ev (m R) (xs.map enc)) (hl : xs.length ≤ sizeLine)
    (hb : ∀ x ∈ xs, Bnd n vs p (enc x) (bs x)) (he : ∀ x ∈ xs, ∀ R', RK n R' (bs x ++ l) → Ev (e R') (f x)) : EvD (mLc m vs p mYes e R) (.lst (xs.map f)) :=
  (e_lcY enc bs f hR xs hm hl fun x hx => ⟨hb x hx, fun R' h' => he x hx R' h'⟩).d
def EnumOf (d : D) (l : List D) : Prop := ∃ t, d = wrapD t l
theorem enumof_tup (l : List D) : EnumOf (.tup l) l := ⟨true, rfl⟩
theorem enumof_lst (l : List D) : EnumOf (.lst l) l := ⟨false, rfl⟩
theorem enumof_wrap (t : Bool) (l : List D) : EnumOf (wrapD t l) l := ⟨t, rfl⟩
theorem v_enum {α : Type} {enc : α → D} {m : Ro → W Ex (List D)} {xs : List α} {d : D} (h : Ev (m R) [d]) (hs : EnumOf d (xs.map enc)) : Ev (mEnum m R) (xs.zipIdx.map fun x => .tup [.int (x.2 : Int), enc x.1]) := e_enum enc h (by
  obtain ⟨t, rfl⟩ := hs
  exact walk_wrap _ _) hs
end
/-! ### small operations -/
theorem add_int (i j : Int) : gAdd (.int i) (.int j) = W.ret (false, .int (i + j)) := rfl
theorem sub_int (i j : Int) : gSub (.int i) (.int j) = W.ret (.int (i - j)) := rfl
theorem lt_int (i j : Int) : gLt (.int i) (.int j) = W.ret (.bl (decide (i < j))) := rfl
theorem le_int (i j : Int) : gLe (.int i) (.int j) = W.ret (.bl (decide (i ≤ j))) := rfl
theorem gt_int (i j : Int) : gGt (.int i) (.int j) = W.ret (.bl (decide (i > j))) := rfl
theorem ge_int (i j : Int) : gGe (.int i) (.int j) = W.ret (.bl (decide (i ≥ j))) := rfl
theorem is_opt (neg : Bool) (o : Option Int) : gIs neg (optD o) .non = W.ret (.bl (o.isNone != neg)) := by cases o <;> cases neg <;> rfl
theorem is_spD (neg : Bool) (o : Option (Int × Int)) : gIs neg (spD o) .non = W.ret (.bl (o.isNone != neg)) := by rcases o with _ | ⟨a, b⟩ <;> cases neg <;> rfl
theorem ix_per0 (p : Per) : gIx (perD p) (.int 0) = W.ret (.str p.nm) := rfl
theorem ix_per1 (p : Per) : gIx (perD p) (.int 1) = W.ret (.int p.w) := rfl
theorem ix_per2 (p : Per) : gIx (perD p) (.int 2) = W.ret (.int p.s) := rfl
theorem ix_per3 (p : Per) : gIx (perD p) (.int 3) = W.ret (spD p.sp) := rfl
theorem ix_met0 (m : Met) : gIx (metD m) (.int 0) = W.ret (.int m.day) := rfl
theorem ix_met1 (m : Met) : gIx (metD m) (.int 1) = W.ret (.str m.one) := rfl
theorem ix_met2 (m : Met) : gIx (metD m) (.int 2) = W.ret (.str m.other) := rfl
theorem ix_look0 (m : Lk) : gIx (lookD m) (.int 0) = W.ret (.int m.day) := rfl
theorem ix_look1 (m : Lk) : gIx (lookD m) (.int 1) = W.ret (.str m.nm) := rfl
theorem ix_look2 (m : Lk) : gIx (lookD m) (.int 2) = W.ret (.bl m.sh) := rfl
theorem ix_told0 (P : Pl) : gIx (toldD P) (.int 0) = W.ret (.lst (P.ps.map perD)) := rfl
theorem ix_told1 (P : Pl) : gIx (toldD P) (.int 1) = W.ret (.lst (P.ms.map metD)) := rfl
theorem ix_pair0 (a b : D) : gIx (.tup [a, b]) (.int 0) = W.ret a := rfl
theorem ix_pair1 (a b : D) : gIx (.tup [a, b]) (.int 1) = W.ret b := rfl
theorem fld_people (P : Pl) : gFld "Plan" "people" (plD P) = W.ret (.tup (P.ps.map perD)) := rfl
theorem fld_meetings (P : Pl) : gFld "Plan" "meetings" (plD P) = W.ret (.tup (P.ms.map metD)) := rfl
theorem walk_lst (l : List D) : walkD (.lst l) = W.ret l := rfl
theorem walk_tup (l : List D) : walkD (.tup l) = W.ret l := rfl
theorem seq_lst (l : List D) : asSeq (.lst l) = W.ret l := rfl
theorem seq_tup (l : List D) : asSeq (.tup l) = W.ret l := rfl
theorem int_of (i : Int) : g1 intD [.int i] = W.ret (false, .int i) := rfl
theorem strS_of (x : Str) : g1 strD [.str x] = W.ret (false, .str x) := rfl
theorem len_lst (l : List D) : g1 lenD [.lst l] = W.ret (false, .int l.length) := rfl
theorem len_tup (l : List D) : g1 lenD [.tup l] = W.ret (false, .int l.length) := rfl
theorem tup_lst (l : List D) : gTuple [.lst l] = W.ret (false, .tup l) := tuple_wrap false l
theorem tup_tup (l : List D) : gTuple [.tup l] = W.ret (false, .tup l) := tuple_wrap true l
theorem seqIn_ints (l : List Int) (x : Int) : seqIn (l.map D.int) (.int x) = some (l.any fun y => y == x) := by
  have hs := shaped_list (l := l.map PyData.int) fun p hp => by
    obtain ⟨x, _, rfl⟩ := List.mem_map.mp hp
    exact ⟨rfl, Nat.zero_le _⟩
  unfold seqIn
  rw [pys_map D.int PyData.int (fun _ => rfl) l]
  show (if SeqAt.shaped (.int x) = true ∧ _ ∧ _ then some ((l.map PyData.int).any fun z => PyData.eqv z (.int x)) else none) = _
  rw [if_pos ⟨rfl, hs.1, hs.2⟩, List.any_map]
  rfl
theorem in_intsL (neg : Bool) (x : Int) (l : List Int) : gIn neg (.int x) (.lst (l.map D.int)) = W.ret (.bl ((l.any fun y => y == x) != neg)) := by
  unfold gIn
  show (match seqIn (l.map D.int) (.int x) with | some t => W.ret (D.bl (t != neg)) | none => W.fail) = _
  rw [seqIn_ints]
theorem in_intsT (neg : Bool) (x : Int) (l : List Int) : gIn neg (.int x) (.tup (l.map D.int)) = W.ret (.bl ((l.any fun y => y == x) != neg)) := by
  unfold gIn
  show (match seqIn (l.map D.int) (.int x) with | some t => W.ret (D.bl (t != neg)) | none => W.fail) = _
  rw [seqIn_ints]
theorem eq_ones {α : Type} (xs : List α) : gEq false (.lst (xs.map fun _ => D.int 1)) (.lst []) = W.ret (.bl xs.isEmpty) := by
  have e : (xs.map fun _ => D.int 1) = (xs.map fun _ => (1 : Int)).map D.int := by rw [List.map_map]; rfl
  rw [e, eq_nil]
  cases xs <;> rfl
theorem ne_ones {α : Type} (xs : List α) : gEq true (.lst (xs.map fun _ => D.int 1)) (.lst []) = W.ret (.bl (!xs.isEmpty)) := by
  have e1 := eq_ones xs
  revert e1
  unfold gEq
  rcases D.deq (.lst (xs.map fun _ => D.int 1)) (.lst []) with _ | t
  · intro e1
    have := congrFun (congrFun e1 fun _ => True) fun _ => False
    exact absurd this (by
      intro z
      have : (False : Prop) = True := z
      rw [this]; trivial)
  · intro e1
    have : (t != false) = xs.isEmpty := by
      have h := congrFun (congrFun e1 fun d => d = .bl (t != false)) fun _ => False
      have h2 : D.bl xs.isEmpty = .bl (t != false) := by
        have h3 : (D.bl (t != false) = .bl (t != false)) = (D.bl xs.isEmpty = .bl (t != false)) := h
        exact h3 ▸ rfl
      exact (D.bl.inj h2).symm
    show W.ret (D.bl (t != true)) = _
    rw [← this]
    cases t <;> rfl
theorem in_intsW (neg t : Bool) (x : Int) (l : List Int) : gIn neg (.int x) (wrapD t (l.map D.int)) = W.ret (.bl ((l.any fun y => y == x) != neg)) := by
  cases t
  · exact in_intsL neg x l
  · exact in_intsT neg x l
end Fb
end

section
open PySem PySem.Spec PyProof.Rows L2 Fb TL FbL
local macro_rules | `(tactic| walk_at "ev") => `(tactic| first | ((with_reducible apply v_e); assumption; (with_reducible apply Rf.of); rfl) | with_reducible apply e_c | with_reducible apply e_nil | with_reducible apply e_nopart | with_reducible apply e_yes | ((with_reducible apply e_cons) <;> try walk_at "ev") | ((with_reducible apply e_op) <;> try walk_at "ev") | ((with_reducible apply e_de) <;> try walk_at "ev") | ((with_reducible apply e_test) <;> try walk_at "ev") | ((with_reducible apply e_not) <;> try walk_at "ev") | ((with_reducible apply e_notV) <;> try walk_at "ev") | ((with_reducible apply e_and) <;> try walk_at "ev") | ((with_reducible apply e_or) <;> try walk_at "ev") | ((with_reducible apply e_andV) <;> try walk_at "ev") | ((with_reducible apply e_orV) <;> try walk_at "ev") | ((with_reducible apply e_tup) <;> try walk_at "ev") | ((with_reducible apply e_walk) <;> try walk_at "ev") | ((with_reducible apply e_rng1) <;> try walk_at "ev") | ((with_reducible apply v_enum) <;> try walk_at "ev") | ((with_reducible apply e_fld) <;> try walk_at "ev") | ((with_reducible apply e_part) <;> try walk_at "ev") | ((with_reducible apply e_star) <;> try walk_at "ev") | ((with_reducible apply e_ifE) <;> try walk_at "ev") | ((with_reducible apply v_lst) <;> try walk_at "ev") | ((with_reducible apply v_opR) <;> try walk_at "ev") | ((with_reducible apply e_ifD) <;> try walk_at "ev") | ((with_reducible apply v_slice) <;> try walk_at "ev") | ((with_reducible apply v_dr) <;> try walk_at "ev") | ((with_reducible apply e_fmt) <;> try walk_at "ev") | ((with_reducible apply e_zip) <;> try walk_at "ev") | ((with_reducible apply v_call) <;> try walk_at "ev") | ((with_reducible apply v_meth) <;> try walk_at "ev") | ((with_reducible apply v_prop) <;> try walk_at "ev") | ((with_reducible apply v_lcY) <;> try walk_at "ev") | ((with_reducible apply v_lc) <;> try walk_at "ev") | ((with_reducible apply v_blt) <;> try walk_at "ev") | ((with_reducible apply Rf.of); rfl) | ((with_reducible apply op_id); with_reducible assumption) | with_reducible exact enumof_tup _ | with_reducible exact enumof_lst _ | with_reducible exact enumof_wrap _ _ | with_reducible exact add_int _ _ | with_reducible exact sub_int _ _ | with_reducible exact lt_int _ _ | with_reducible exact le_int _ _ | with_reducible exact gt_int _ _ | with_reducible exact ge_int _ _ | with_reducible exact is_opt _ _ | with_reducible exact is_spD _ _ | with_reducible exact eq_int _ _ _ | with_reducible exact eq_bl _ _ | with_reducible exact ne_bl _ _ | with_reducible exact ix_per0 _ | with_reducible exact ix_per1 _ | with_reducible exact ix_per2 _ | with_reducible exact ix_per3 _ | with_reducible exact ix_met0 _ | with_reducible exact ix_met1 _ | with_reducible exact ix_met2 _ | with_reducible exact ix_look0 _ | with_reducible exact ix_look1 _ | with_reducible exact ix_look2 _ | with_reducible exact ix_told0 _ | with_reducible exact ix_told1 _ | with_reducible exact ix_pair0 _ _ | with_reducible exact ix_pair1 _ _ | with_reducible exact fld_people _ | with_reducible exact fld_meetings _ | with_reducible exact walk_lst _ | with_reducible exact walk_tup _ | with_reducible exact walk_wrap _ _ | with_reducible exact seq_lst _ | with_reducible exact seq_tup _ | with_reducible exact int_of _ | with_reducible exact strS_of _ | with_reducible exact len_lst _ | with_reducible exact len_tup _ | with_reducible exact tup_lst _ | with_reducible exact tup_tup _ | with_reducible exact tuple_wrap _ _ | with_reducible exact in_intsL _ _ _ | with_reducible exact in_intsT _ _ _ | with_reducible exact in_intsW _ _ _ _ | with_reducible exact in_dic _ _ _ | with_reducible exact ix_day (by assumption) | ((with_reducible intro x hx); exact ⟨rfl, rfl, rfl, rfl⟩) | ((with_reducible intro _); walk_at "ev") | exact eq_ones _ | exact ne_ones _ | ((with_reducible apply evd_id); with_reducible assumption) | ((with_reducible apply evd_id); with_reducible solve_by_elim) | ((with_reducible apply le_id); assumption) | ((with_reducible apply rk_id); assumption))
local macro_rules | `(tactic| walk_at "pk") => `(tactic| first | exact subK_nil | (apply subK_cons; rfl; (first | exact fun z => z | exact fun z => nomatch z); walk_at "pk"))

section
set_option Elab.async false
set_option linter.all false
set_option maxRecDepth 100000
set_option maxHeartbeats 1000000
/-! Plans without some meetings; needed meetings. -/
namespace FbL
open PySem PySem.Spec PyProof.Rows L2 Fb TL
end FbL
end

section
set_option Elab.async false
set_option linter.all false
set_option maxRecDepth 100000
set_option maxHeartbeats 1000000
/-! The text of a plan. -/
namespace FbL
open PySem PySem.Spec PyProof.Rows L2 Fb TL
end FbL
end

section
set_option Elab.async false
set_option linter.all false
set_option maxRecDepth 100000
set_option maxHeartbeats 1000000
/-! A case's beginning; tests of looks; what laws compare. -/
namespace FbL
open PySem PySem.Spec PyProof.Rows L2 Fb TL
section
variable {n : Nat} {ρ : En} {l : List (Nat × Bool × D)} {Q : Fl × En → Prop} {E : Ex × En → Prop} {k : En → WS}
end
/-! ### what of lists -/
/-! ### fewer meetings -/
section
variable {P : Pl} (ok : P.Ok) {ls : List Lk}
include ok
end
end FbL
end

section
set_option Elab.async false
set_option linter.all false
set_option maxRecDepth 100000
set_option maxHeartbeats 1000000
/-! Meetings that can have brought it. -/
namespace FbL
open PySem PySem.Spec PyProof.Rows L2 Fb TL
section
variable {n : Nat} {ρ : En} {l : List (Nat × Bool × D)} {Q : Fl × En → Prop} {E : Ex × En → Prop} {k : En → WS}
end
section
variable {P : Pl} (ok : P.Ok) (sz : P.ps.length < sizeLine)
include ok sz
end
/-! ### by all worlds -/
end FbL
end

section
set_option Elab.async false
set_option linter.all false
set_option maxRecDepth 100000
set_option maxHeartbeats 1000000
/-! Data that can be compared and shown. -/
namespace FbL
open PySem PySem.Spec PyProof.Rows L2 Fb TL
/-- data of depth n whose text has at most B signs -/
def Nice (n B : Nat) (d : D) : Prop := ∃ p, d.py = some p ∧ p.canLay0 = true ∧ Shows p n ∧ p.shown.length ≤ B
theorem Nice.mono {n B n' B' : Nat} {d : D} (h : Nice n B d) (hn : n ≤ n') (hB : B ≤ B') : Nice n' B' d := by
  obtain ⟨p, e, c, s, l⟩ := h
  exact ⟨p, e, c, ⟨s.sh, s.hd, Nat.le_trans s.dp hn, s.sok⟩, Nat.le_trans l hB⟩
theorem tupText_len (L B : Nat) {ts : List Str} (h : ∀ t ∈ ts, t.length ≤ B) (hl : ts.length ≤ L) : (tupleText ts).length ≤ L * (B + 2) + 3 := by
  unfold tupleText
  have h1 := len_join ", " ts
  rw [join_eq] at h1
  have h2 := sum_le (l := ts) (f := (·.length)) (B := B) h
  have e1 : ("(" : Str).length = 1 := rfl
  have e2 : (", " : Str).length = 2 := rfl
  have e3 : ((if ts.length == 1 then ",)" else ")" : String) : Str).length ≤ 2 := by split <;> decide
  rw [len_app, len_app, e1]
  rw [e2] at h1
  have : ts.length * B + ts.length * 2 ≤ L * (B + 2) := by
    rw [← Nat.mul_add]
    exact Nat.mul_le_mul_right _ hl
  omega
theorem nice_pys {n B : Nat} : ∀ {l : List D}, (∀ d ∈ l, Nice n B d) → ∃ ps, D.pys l = some ps ∧ ps.length = l.length ∧ ∀ p ∈ ps, p.canLay0 = true ∧ Shows p n ∧ p.shown.length ≤ B
  | [], _ => ⟨[], rfl, rfl, fun p hp => nomatch hp⟩
  | d :: l, h => by
    obtain ⟨p, e, c, s, b⟩ := h d List.mem_cons_self
    obtain ⟨ps, es, hl, hps⟩ := nice_pys (l := l) fun x hx => h x (List.mem_cons_of_mem _ hx)
    refine ⟨p :: ps, ?_, congrArg (· + 1) hl, fun q hq => ?_⟩
    · unfold D.pys
      rw [e, es]
      try rfl
    · rcases List.mem_cons.mp hq with rfl | hq
      · exact ⟨c, s, b⟩
      · exact hps q hq
theorem nice_eqL {n B : Nat} {l : List D} (h : ∀ d ∈ l, Nice n B d) (hn : n ≤ 60) (neg : Bool) : gEq neg (.lst l) (.lst l) = W.ret (.bl (true != neg)) := by
  obtain ⟨ps, e, _, hp⟩ := nice_pys h
  exact eq_sameL e (fun p hp' => ⟨(hp p hp').1, by have := (hp p hp').2.1.dp; omega⟩) neg
theorem Nice.tup {n B : Nat} (L : Nat) {l : List D} (h : ∀ d ∈ l, Nice n B d) (hl : l.length ≤ L) : Nice (n + 1) (L * (B + 2) + 3) (.tup l) := by
  have ex : ∃ ps, D.pys l = some ps ∧ ps.length = l.length ∧ ∀ p ∈ ps, p.canLay0 = true ∧ Shows p n ∧ p.shown.length ≤ B := by
    clear hl
    induction l with
    | nil => exact ⟨[], rfl, rfl, fun p hp => nomatch hp⟩
    | cons d l ih =>
      obtain ⟨p, e, c, s, b⟩ := h d List.mem_cons_self
      obtain ⟨ps, es, hl, hps⟩ := ih fun x hx => h x (List.mem_cons_of_mem _ hx)
      refine ⟨p :: ps, ?_, congrArg (· + 1) hl, fun q hq => ?_⟩
      · unfold D.pys
        rw [e, es]
        try rfl
      · rcases List.mem_cons.mp hq with rfl | hq
        · exact ⟨c, s, b⟩
        · exact hps q hq
  obtain ⟨ps, es, hlen, hps⟩ := ex
  refine ⟨.tuple ps, by show (D.pys l).map PyData.tuple = _; rw [es]; rfl, canLay_all fun d hd => (hps d hd).1, ⟨showableAll_of fun p hp => (hps p hp).2.1.sh, hasDictAll_of fun p hp => (hps p hp).2.1.hd, Nat.add_le_add_right (depth_all fun p hp => (hps p hp).2.1.dp) 1, ?_⟩, ?_⟩
  · show sOk (tupleText (PyData.shownAll ps)) = true
    rw [shownAll_map]
    unfold tupleText
    refine sok_app (sok_app (by decide +kernel) (sok_joined (by decide +kernel) fun t ht => ?_)) ?_
    · obtain ⟨p, hp, rfl⟩ := List.mem_map.mp ht
      exact (hps p hp).2.1.sok
    · split <;> decide +kernel
  · show (tupleText (PyData.shownAll ps)).length ≤ _
    rw [shownAll_map]
    refine tupText_len L B (fun t ht => ?_) (by rw [List.length_map, hlen]; exact hl)
    obtain ⟨p, hp, rfl⟩ := List.mem_map.mp ht
    exact (hps p hp).2.2
theorem Nice.repr {n B : Nat} {l : List D} (h : Nice n B (.tup l)) (hn : n ≤ 60) (hB : B ≤ sizeLine) : ∃ s, sOk s = true ∧ gRepr [.tup l] = W.ret (false, .str s) := by
  obtain ⟨p, e, c, s, b⟩ := h
  refine ⟨p.shown, s.sok, ?_⟩
  show (W.got (D.tup l).py fun p => if shownOk p = true then W.ret (false, D.str p.shown) else W.fail) = _
  have hd : isDisplay p = true := by
    have e : (D.pys l).map PyData.tuple = some p := e
    rcases e2 : D.pys l with _ | ps
    · rw [e2] at e; cases e
    · rw [e2] at e; cases e; rfl
  rw [e]
  show (if shownOk p = true then W.ret (false, D.str p.shown) else W.fail) = _
  have : shownOk p = true := by
    unfold shownOk
    rw [s.sh, s.hd, hd, decide_eq_true (show p.depth ≤ 60 by have := s.dp; omega), decide_eq_true (show p.shown.length ≤ sizeLine by omega)]; rfl
  rw [if_pos this]
theorem nice_bl (b : Bool) : Nice 0 40 (.bl b) := by
  cases b
  · exact ⟨.bool false, rfl, rfl, ⟨rfl, rfl, Nat.le_refl _, by decide +kernel⟩, by decide +kernel⟩
  · exact ⟨.bool true, rfl, rfl, ⟨rfl, rfl, Nat.le_refl _, by decide +kernel⟩, by decide +kernel⟩
theorem nice_non : Nice 0 40 .non := ⟨.none, rfl, rfl, ⟨rfl, rfl, Nat.le_refl _, by decide +kernel⟩, by decide +kernel⟩
end FbL
end

section
set_option Elab.async false
set_option linter.all false
set_option maxRecDepth 100000
set_option maxHeartbeats 1000000
/-! First ones; the greatest world; worlds put together. -/
namespace FbL
open PySem PySem.Spec PyProof.Rows L2 Fb TL
/-! ### sorted names -/
/-! ### dict blocks of new keys -/
/-! ### those who are a first one -/
section
variable {P : Pl} (ok : P.Ok) (sz : P.ps.length < sizeLine)
include ok sz
end
/-! ### who is one in all, in some -/
section
variable {P : Pl} (hP : Drawn P) {ls : List Lk} (hl : ∀ l ∈ ls, l.nm ∈ P.names)
include hP hl
end
/-! ### the greatest world -/
/-! ### the greatest world, told -/
section
variable {P : Pl} (ok : P.Ok) (sz : P.ps.length < sizeLine)
include ok sz
end
/-! ### two worlds put together -/
end FbL
end

section
set_option Elab.async false
set_option linter.all false
set_option maxRecDepth 100000
set_option maxHeartbeats 1000000
/-! Whether some world fits; a case with drawn numbers of looks. -/
namespace FbL
open PySem PySem.Spec PyProof.Rows L2 Fb TL
section
variable {P : Pl} (ok : P.Ok) (sz : P.ps.length < sizeLine)
include ok sz
end
end FbL
end

section
set_option Elab.async false
set_option linter.all false
set_option maxRecDepth 100000
set_option maxHeartbeats 1000000
/-! Worlds that fit; since when surely. -/
namespace FbL
open PySem PySem.Spec PyProof.Rows L2 Fb TL
section
variable {P : Pl} (ok : P.Ok) {ls : List Lk} {n : Str}
include ok
end
end FbL
end

section
set_option Elab.async false
set_option linter.all false
set_option maxRecDepth 100000
set_option maxHeartbeats 1000000
/-! More looks; tests that laws share. -/
namespace FbL
open PySem PySem.Spec PyProof.Rows L2 Fb TL
section
variable {n : Nat} {R : Ro} {l : List (Nat × D)}
end
/-! ### the same looks, more looks -/
section
variable {P : Pl} (hP : Drawn P) {ls ls' : List Lk} (hl : ∀ l ∈ ls, l.nm ∈ P.names) (hl' : ∀ l ∈ ls', l.nm ∈ P.names) (h : ∀ l ∈ ls, l ∈ ls') {w : Wl} (hw : w ∈ fitsL P ls')
include hP hl hl' h hw
end
end FbL
end

section
set_option Elab.async false
set_option linter.all false
set_option maxRecDepth 100000
set_option maxHeartbeats 1000000
/-! Plans with other names, days moved. -/
namespace FbL
open PySem PySem.Spec PyProof.Rows L2 Fb TL
structure IsoP (σ : Str → Str) (a b : Int) (P R : Pl) : Prop where
  a1 : 1 ≤ a
  inj : ∀ x ∈ P.names, ∀ y ∈ P.names, σ x = σ y → x = y
  per : ∀ p ∈ P.ps, ∃ p' ∈ R.ps, p'.nm = σ p.nm ∧ p'.w = a * p.w ∧ p'.sp = (p.sp.map fun s => (a * s.1 + b, a * s.2 + b)) ∧ (a = 1 → p'.s = p.s)
  met : R.ms.Perm (P.ms.map fun m => ⟨a * m.day + b, σ m.one, σ m.other⟩)
section
variable {σ : Str → Str} {a b : Int} {P R : Pl} (I : IsoP σ a b P R) (ok : P.Ok) (rk : R.Ok)
include I ok rk
end
/-! ### a factor of one: looks -/
def movL (σ : Str → Str) (b : Int) (l : Lk) : Lk := ⟨1 * l.day + b, σ l.nm, l.sh⟩
section
variable {σ : Str → Str} {b : Int} {P R : Pl} (I : IsoP σ 1 b P R) (ok : P.Ok) (rk : R.Ok)
include I ok rk
variable {ls ls' : List Lk} (hl : ∀ l ∈ ls, l.nm ∈ P.names) (hls : ∀ l', l' ∈ ls' ↔ ∃ l ∈ ls, l' = movL σ b l)
include hl hls
end
end FbL
end

section
set_option Elab.async false
set_option linter.all false
set_option maxRecDepth 100000
set_option maxHeartbeats 1000000
/-! Days moved: raised days, what is sure. -/
namespace FbL
open PySem PySem.Spec PyProof.Rows L2 Fb TL
section
variable {σ : Str → Str} {b : Int} {P R : Pl} (I : IsoP σ 1 b P R) (ok : P.Ok) (rk : R.Ok) {ls ls' : List Lk} (hl : ∀ l ∈ ls, l.nm ∈ P.names) (hls : ∀ l', l' ∈ ls' ↔ ∃ l ∈ ls, l' = movL σ b l)
include I ok rk hl hls
end
end FbL
end

section
set_option Elab.async false
set_option linter.all false
set_option maxRecDepth 100000
set_option maxHeartbeats 1000000
namespace FbL.Cp
open PySem PySem.Spec PyProof.Rows L2 Fb TL
/-! ### turning days -/
/-- what is asked of two plans -/
structure Two (P Q : Pl) : Prop where
  p : P.Ok
  q : Q.Ok
  ps : Q.ps = P.ps
  sp : P.ps.length ≤ 1000
  sm : P.ms.length ≤ 1000
  sn : Q.ms.length ≤ 1000
theorem Two.names {P Q : Pl} (t : Two P Q) : Q.names = P.names := by unfold Pl.names; rw [t.ps]
theorem Two.symm {P Q : Pl} (t : Two P Q) : Two Q P := ⟨t.q, t.p, t.ps.symm, by rw [t.ps]; exact t.sp, t.sn, t.sm⟩
end FbL.Cp
end

section
set_option Elab.async false
set_option linter.all false
set_option maxRecDepth 100000
set_option maxHeartbeats 1000000
namespace FbL.Cp
open PySem PySem.Spec PyProof.Rows L2 Fb TL
def oneF (n : Str) (d : Int) : Str → Option Int := fun m => if m = n then some d else none
/-! ### sooner -/
end FbL.Cp
end

section
set_option Elab.async false
set_option linter.all false
set_option maxRecDepth 100000
set_option maxHeartbeats 1000000
/-! Plans compared: the days that are enough, all worlds. -/
namespace FbL
open PySem PySem.Spec PyProof.Rows L2 Fb TL
section
variable {P : Pl} (ok : P.Ok)
include ok
end
/-- never sooner: in no world of one first one -/
def NS (P Q : Pl) : Prop := ∀ p ∈ P.ps, ∀ lo hi, p.sp = some (lo, hi) → ∀ d, lo ≤ d → d ≤ hi → ∀ x ∈ P.names, leO (daysM Q (oneF p.nm d) x) (daysM P (oneF p.nm d) x)
/-- worlds of several first ones -/
theorem NS.all {P Q : Pl} (hp : P.Ok) (hq : Q.Ok) (e : Q.ps = P.ps) (h : NS P Q) : ∀ {ws : Wl}, (ws.map (·.1)).Nodup → (∀ w ∈ ws, fstOk P.ps w) → ∀ x ∈ P.names, leO (sinceM Q ws x) (sinceM P ws x)
  | [], _, _, x, hx => by
    show leO (daysM Q noF x) (daysM P noF x)
    rw [days_none hp]
    exact fun y hy => nomatch hy
  | w :: ws, nd, ho, x, hx => by
    rw [List.map_cons, List.nodup_cons] at nd
    have ih := NS.all hp hq e h nd.2 (fun u hu => ho u (List.mem_cons_of_mem _ hu)) x hx
    unfold sinceM at ih ⊢
    rw [fst_cons nd.1, both_eq hp, both_eq hq]
    dsimp only
    obtain ⟨p, hp', en, lo, hi, es, _, h1, h2⟩ := ho w List.mem_cons_self
    have s := h p hp' lo hi es w.2 h1 h2 x hx
    rw [en] at s
    exact least_of ((least_l _ _).trans s) ((least_r _ _).trans ih)
theorem NS.trans {P Q R : Pl} (e : Q.ps = P.ps) (h : NS P Q) (k : NS Q R) : NS P R := fun p hp lo hi es d h1 h2 x hx => by
  have := k p (by rw [e]; exact hp) lo hi es d h1 h2 x (by unfold Pl.names; rw [e]; exact hx)
  exact this.trans (h p hp lo hi es d h1 h2 x hx)
end FbL
end

section
set_option Elab.async false
set_option linter.all false
set_option maxRecDepth 100000
set_option maxHeartbeats 1000000
/-! List displays with draws. -/
namespace FbL
open PySem PySem.Spec PyProof.Rows L2 Fb TL
inductive LcR {α : Type} (G : α → D → Prop) (S : α → Prop) : List α → List D → Prop
  | nil : LcR G S [] []
  | skip {x : α} {xs : List α} {ys : List D} : S x → LcR G S xs ys → LcR G S (x :: xs) ys
  | take {x : α} {y : D} {xs : List α} {ys : List D} : G x y → LcR G S xs ys → LcR G S (x :: xs) (y :: ys)
theorem LcR.len {α : Type} {G : α → D → Prop} {S : α → Prop} {xs : List α} {ys : List D} (h : LcR G S xs ys) : ys.length ≤ xs.length := by
  induction h with
  | nil => exact Nat.le_refl _
  | skip _ _ ih => rw [List.length_cons]; omega
  | take _ _ ih => rw [List.length_cons, List.length_cons]; omega
section
variable {n : Nat} {R : Ro} {l : List (Nat × D)} {E : Ex → Prop}
theorem r_lcD {α : Type} (enc : α → D) {vs : List Nat} {p : D → Option (List (Nat × D))} {c : Ro → W Ex Bool} {e : Ro → W Ex D} (bs : α → List (Nat × D)) (G : α → D → Prop) (S : α → Prop) (hR : RK n R l) : ∀ (xs : List α),
    (∀ x ∈ xs, Bnd n vs p (enc x) (bs x) ∧ ∀ R', RK n R' (bs x ++ l) → ∀ (K : D → W Ex (List D)) (K2 : W Ex (List D)) (Q : List D → Prop), (S x → K2 Q E) → (∀ y, G x y → K y Q E) → c R' (fun b => (if b = true then W.bind (W.calm (e R')) K else K2) Q E) (fun _ => False)) →
    ∀ {Q : List D → Prop}, (∀ ys, LcR G S xs ys → Q ys) → lcN p c e (wipeR R vs) (xs.map enc) Q E
  | [], _, Q, q => q [] .nil
  | x :: xs, h, Q, q => by
    obtain ⟨⟨h1, h2, h3, h4⟩, h5⟩ := h x List.mem_cons_self
    have rest := fun {Q : List D → Prop} (q : ∀ ys, LcR G S xs ys → Q ys) => r_lcD enc (vs := vs) (p := p) (c := c) (e := e) bs G S hR xs (fun y hy => h y (List.mem_cons_of_mem _ hy)) (Q := Q) q
    rw [List.map_cons]
    unfold lcN
    rw [h1]
    refine h5 _ (hR.block h2 h3 h4) _ _ Q (fun s => ?_) fun y hy => ?_
    · exact rest fun ys hys => q ys (.skip s hys)
    · exact r_bind (rest fun ys hys => q (y :: ys) (.take hy hys))
end
end FbL
end

section
set_option Elab.async false
set_option linter.all false
set_option maxRecDepth 100000
set_option maxHeartbeats 1000000
/-! Plans of the same people, beside one another. -/
namespace FbL
open PySem PySem.Spec PyProof.Rows L2 Fb TL
/-- a plan of the same people -/
structure Sib (P R : Pl) : Prop where
  ok : R.Ok
  ps : R.ps = P.ps
  few : R.ms.length ≤ 200
section
variable {P : Pl} (hP : Drawn P) {A B : Pl} (a : Sib P A) (b : Sib P B)
include hP a b
theorem sib_names : A.names = P.names := by unfold Pl.names; rw [a.ps]
theorem ns_since (h : NS A B) {ws : Wl} (hw : WOk P ws) : ∀ x ∈ P.names, leO (sinceM B ws x) (sinceM A ws x) := fun x hx =>
  NS.all a.ok b.ok (b.ps.trans a.ps.symm) h hw.nd (by rw [a.ps]; exact hw.ok) x (by rw [sib_names hP a b]; exact hx)
end
end FbL
end

section
set_option Elab.async false
set_option linter.all false
set_option maxRecDepth 100000
set_option maxHeartbeats 1000000
/-! Plans alike tell alike; plans with the same text. -/
namespace FbL
open PySem PySem.Spec PyProof.Rows L2 Fb TL
section
variable {P : Pl} (hP : Drawn P) {A B : Pl} (a : Sib P A) (b : Sib P B) (n1 : NS A B) (n2 : NS B A)
include hP a b n1 n2
theorem like_since {ws : Wl} (hw : WOk P ws) : ∀ x ∈ P.names, sinceM A ws x = sinceM B ws x := fun x hx => (ns_since hP b a n2 hw x hx).antisymm (ns_since hP a b n1 hw x hx)
theorem like_holds {ws : Wl} (hw : WOk P ws) {l : Lk} (hl : l.nm ∈ P.names) : holdsM A (daysM A (fstF ws)) l = holdsM B (daysM B (fstF ws)) l := by
  obtain ⟨p, hp, hm, en⟩ := perOf_mem hl
  have e : daysM A (fstF ws) l.nm = daysM B (fstF ws) l.nm := like_since hP a b n1 n2 hw l.nm hl
  unfold holdsM
  rw [a.ps, b.ps, hp]
  show (l.sh == inLot (daysM A (fstF ws)) (·.s) l.day p) = (l.sh == inLot (daysM B (fstF ws)) (·.s) l.day p)
  unfold inLot
  rw [en, e]
variable {ls : List Lk} (hl : ∀ l ∈ ls, l.nm ∈ P.names)
include hl
end
theorem e_opE {R : Ro} {g : D → D → W Ex D} {m k : Ro → W Ex D} {a b d : D} (h : Ev (m R) a) (h2 : Ev (k R) b) (h3 : Ev (g a b) d) : Ev (mOp g m k R) d := fun Q E q => r_op (h _ _ (h2 _ _ (h3 _ _ q)))
end FbL
end

section
set_option Elab.async false
set_option linter.all false
set_option maxRecDepth 100000
set_option maxHeartbeats 1000000
/-! Papers. -/
namespace FbL
open PySem PySem.Spec PyProof.Rows L2 Fb TL
section
variable {P : Pl} (ok : P.Ok) (sz : P.ps.length < sizeLine)
include ok sz
end
end FbL
end

section
set_option Elab.async false
set_option linter.all false
set_option maxRecDepth 100000
set_option maxHeartbeats 1000000
/-! Papers: plain laws. -/
namespace FbL
open PySem PySem.Spec PyProof.Rows L2 Fb TL
section
variable {P : Pl} (ok : P.Ok) {ls : List Lk} {n : Str}
include ok
end
end FbL
end

section
set_option Elab.async false
set_option linter.all false
set_option maxRecDepth 100000
set_option maxHeartbeats 1000000
/-! Whether a paper holds. -/
namespace FbL
open PySem PySem.Spec PyProof.Rows L2 Fb TL
section
variable {P : Pl} (ok : P.Ok) (sz : P.ps.length < sizeLine)
include ok sz
end
end FbL
end

section
set_option Elab.async false
set_option linter.all false
set_option maxRecDepth 100000
set_option maxHeartbeats 1000000
/-! Papers by the law's own look. -/
namespace FbL
open PySem PySem.Spec PyProof.Rows L2 Fb TL
section
variable {P : Pl} (hP : Drawn P)
include hP
end
end FbL
end

section
set_option Elab.async false
set_option linter.all false
set_option maxRecDepth 100000
set_option maxHeartbeats 1000000
/-! Papers by the law's own look: the whole. -/
namespace FbL
open PySem PySem.Spec PyProof.Rows L2 Fb TL
end FbL
end

section
set_option Elab.async false
set_option linter.all false
set_option maxRecDepth 100000
set_option maxHeartbeats 4000000
namespace FbL
open PySem PySem.Spec PyProof.Rows L2 Fb
/-! ### who brought it -/
def hitM (wt : Str → Int) (g : Str → Option Int) (x : Str) (m : Met) : Option Str :=
  if (g x == some m.day) = true ∧ (x = m.one ∨ x = m.other) then
    match g (if x = m.one then m.other else m.one) with
    | some v => if v + wt (if x = m.one then m.other else m.one) ≤ m.day then some (if x = m.one then m.other else m.one) else none
    | none => none
  else none
def broughtL (wt : Str → Int) (g : Str → Option Int) (x : Str) : List Met → Nat → Option (Nat × Str)
  | [], _ => none
  | m :: ms, k => match hitM wt g x m with
    | some y => some (k, y)
    | none => broughtL wt g x ms (k + 1)
/-! ### a chain -/
def stopM (ws : List (Str × Int)) (g : Str → Option Int) (x : Str) : Bool := match fstF ws x with
  | some d => g x == some d
  | none => false
inductive ChainM (P : Pl) (ws : List (Str × Int)) (g : Str → Option Int) : Str → List Nat → Prop
  | done {x : Str} (h : stopM ws g x = true) : ChainM P ws g x []
  | step {x y : Str} {k : Nat} {l : List Nat} (h : stopM ws g x = false) (hb : broughtL (waitOf P.ps) g x P.ms 0 = some (k, y)) (hy : y ∈ P.names) (t : ChainM P ws g y l) : ChainM P ws g x (k :: l)
end FbL
end

section
set_option Elab.async false
set_option linter.all false
set_option maxRecDepth 100000
set_option maxHeartbeats 1000000
/-! Chains: that there is one, and that it is a way. -/
namespace FbL
open PySem PySem.Spec PyProof.Rows L2 Fb TL
section
variable {P : Pl} (ok : P.Ok)
include ok
end
section
variable {P : Pl} (hP : Drawn P)
include hP
end
end FbL
end

section
set_option Elab.async false
set_option linter.all false
set_option maxRecDepth 100000
set_option maxHeartbeats 1000000
/-! Asking: results, is_settled, settling. -/
namespace FbL
open PySem PySem.Spec PyProof.Rows L2 Fb TL
/-! ### since when surely, all days (also in the text of k77) -/
section
variable {P : Pl} (hP : Drawn P) {ls : List Lk} (hl : ∀ l ∈ ls, l.nm ∈ P.names) (hs : showsAllM P ls (fstF (leastW P ls)) = true) {n : Str}
include hP hl
include hs
end
/-! ### plain -/
section
variable {P : Pl} (hP : Drawn P) {ls : List Lk} (hl : ∀ l ∈ ls, LkOk P l)
include hP hl
end
/-! ### evaluated -/
section
variable {P : Pl} (ok : P.Ok) (sz : P.ps.length < sizeLine)
include ok sz
end
end FbL
end

section
set_option Elab.async false
set_option linter.all false
set_option maxRecDepth 100000
set_option maxHeartbeats 1000000
/-! Lots of names; the least lots. -/
namespace FbL
open PySem PySem.Spec PyProof.Rows L2 Fb TL
/-! ### sorted by length, then by the names -/
/-! ### least lots -/
section
variable {P : Pl} (ok : P.Ok) (sz : P.ps.length < sizeLine)
include ok sz
end
end FbL
end

section
set_option Elab.async false
set_option linter.all false
set_option maxRecDepth 100000
set_option maxHeartbeats 1000000
/-! Plain laws of the least lots. -/
namespace FbL
open PySem PySem.Spec PyProof.Rows L2 Fb TL
section
variable {P : Pl} {ls : List Lk}
end
end FbL
end

section
set_option Elab.async false
set_option linter.all false
set_option maxRecDepth 100000
set_option maxHeartbeats 4000000
/-! The deal: draws, a mixed list, titles, one of some. -/
namespace FbL
open PySem PySem.Spec PyProof.Rows L2 Fb
theorem draw_eq {m : Int} (h : 0 < m ∧ m < 100000000000000000) (Q : Bool × D → Prop) (E : Ex → Prop) (q : ∀ r : Int, 0 ≤ r → r < m → Q (false, .int r)) : sem__law_draw [.box 0, .int m] Q E := ⟨h.1, h.2, q⟩
def names8 : List Str := ["ann", "bob", "cyd", "dan", "eve", "f", "gg", "zzzz"]
/-- four different names -/
structure Four (a b c d : Str) : Prop where
  nd : [a, b, c, d].Nodup
  ok : ∀ x ∈ [a, b, c, d], nameOk x = true
theorem draw_run {R : Ro} {i : Nat} {mm : Ro → W Ex D} {m : Int} {Q : Bool × D → Prop} {E : Ex → Prop} (h : Ev (mVar i R) (.box 0)) (h2 : Ev (mm R) (.int m)) (hm : 0 < m ∧ m < 100000000000000000) (q : ∀ r : Int, 0 ≤ r → r < m → Q (false, .int r)) : mCall 2 sem__law_draw [] (mCons (mVar i) (mCons mm mNil)) R Q E :=
  r_call (r_cons (h _ _ (r_cons (h2 _ _ (r_nil (r_callif rfl (draw_eq hm _ _ q)))))))
theorem pick_run {R : Ro} {i : Nat} {a : Ro → W Ex D} {l : List D} {Q : Bool × D → Prop} {E : Ex → Prop} (hb : Ev (mVar i R) (.box 0)) (ha : Ev (a R) (.lst l)) (h0 : l ≠ []) (hl : l.length < 1000000) (q : ∀ x ∈ l, Q (false, x)) : mCall 2 sem__law_pick [] (mCons (mVar i) (mCons a mNil)) R Q E := by
  refine r_call (r_cons (hb _ _ (r_cons (ha _ _ (r_nil (r_callif rfl ?_))))))
  refine r_body (show 2 ≤ 2 by decide) fun ρ h => ?_
  replace h : EK 2 ρ [(0, false, .box 0), (1, false, .lst l)] := h
  have lp : 0 < l.length := List.length_pos_iff.mpr h0
  refine r_retE h fun R hR => r_dr (r_op (hR.e (i := 1) (d := .lst l) rfl _ _ (r_de (draw_run (m := (l.length : Int)) (hR.e rfl) (e_de (e_blt (e_cons (hR.e (d := .lst l) rfl) e_nil) (show g1 lenD [.lst l] = W.ret (false, .int l.length) from rfl)).d) ⟨by omega, by omega⟩ fun r r0 r1 => ?_))))
  obtain ⟨j, rfl⟩ := Int.eq_ofNat_of_zero_le r0
  have jl : j < l.length := by omega
  have ix : gIx (.lst l) (.int (j : Int)) = W.ret l[j] := by
    unfold gIx
    have : atI l (j : Int) = some l[j] := by
      unfold atI ixN
      rw [if_pos (Int.natCast_nonneg _), if_pos (Int.ofNat_lt.mpr jl)]
      show l[(j : Int).toNat]? = _
      rw [Int.toNat_natCast, List.getElem?_eq_getElem jl]
    show (match atI l (j : Int) with | some d => W.ret d | none => W.fail) = _
    rw [this]
  exact r_eq ix (r_endR (q _ (List.getElem_mem jl)))
/-- some titles -/
structure Titles (ts : List Str) : Prop where
  nd : ts.Nodup
  ok : ∀ x ∈ ts, x ∈ names8
end FbL
end

section
set_option Elab.async false
set_option linter.all false
set_option maxRecDepth 100000
set_option maxHeartbeats 1000000
/-! k01: any values, each with a text. -/
namespace FbL
open PySem PySem.Spec PyProof.Rows L2 Fb TL
theorem sok_textFrom : ∀ (ts : List Str) (k : Nat) (acc : Str), sOk acc = true → (∀ t ∈ ts, sOk t = true) → sOk (textFrom k acc ts) = true
  | [], _, _, h, _ => h
  | t :: ts, k, acc, h, ht => sok_textFrom ts (k + 1) _ (sok_app (sok_app h (by split <;> decide +kernel)) (ht t List.mem_cons_self)) fun u hu => ht u (List.mem_cons_of_mem _ hu)
theorem nice_reprL {n B : Nat} (L : Nat) {l : List D} (h : ∀ d ∈ l, Nice n B d) (hl : l.length ≤ L) (hn : n ≤ 50) (hB : L * (B + 2) + 3 ≤ sizeLine) : ∃ s, sOk s = true ∧ gRepr [.lst l] = W.ret (false, .str s) := by
  obtain ⟨ps, es, hlen, hps⟩ := nice_pys h
  have e : (D.lst l).py = some (.list ps) := by show (D.pys l).map PyData.list = _; rw [es]; rfl
  have so : sOk (PyData.list ps).shown = true := by
    show sOk (listText (PyData.shownAll ps)) = true
    rw [shownAll_map]
    unfold listText
    refine sok_app (sok_textFrom _ _ _ (by decide +kernel) fun t ht => ?_) (by decide +kernel)
    obtain ⟨p, hp, rfl⟩ := List.mem_map.mp ht
    exact (hps p hp).2.1.sok
  have ln : (PyData.list ps).shown.length ≤ sizeLine := by
    show (listText (PyData.shownAll ps)).length ≤ sizeLine
    rw [shownAll_map]
    have h1 := listText_len_le (ps.map PyData.shown)
    have h2 := sum_le (l := ps.map PyData.shown) (f := (·.length)) (B := B) fun t ht => by
      obtain ⟨p, hp, rfl⟩ := List.mem_map.mp ht
      exact (hps p hp).2.2
    rw [List.length_map] at h1 h2
    have : ps.length * B + ps.length * 2 ≤ L * (B + 2) := by
      rw [← Nat.mul_add]
      exact Nat.mul_le_mul_right _ (by omega)
    omega
  refine ⟨(PyData.list ps).shown, so, ?_⟩
  show (W.got (D.lst l).py fun p => if shownOk p = true then W.ret (false, D.str p.shown) else W.fail) = _
  rw [e]
  show (if shownOk (.list ps) = true then W.ret (false, D.str (PyData.list ps).shown) else W.fail) = _
  have : shownOk (.list ps) = true := by
    unfold shownOk
    have a1 : (PyData.list ps).showable = true := showableAll_of fun p hp => (hps p hp).2.1.sh
    have a2 : (PyData.list ps).hasDict = false := hasDictAll_of fun p hp => (hps p hp).2.1.hd
    have a3 : (PyData.list ps).depth ≤ n + 1 := Nat.add_le_add_right (depth_all fun p hp => (hps p hp).2.1.dp) 1
    rw [a1, a2, decide_eq_true (show (PyData.list ps).depth ≤ 60 by omega), decide_eq_true ln]; rfl
  rw [if_pos this]
theorem Nice.lst {n B : Nat} (L : Nat) {l : List D} (h : ∀ d ∈ l, Nice n B d) (hl : l.length ≤ L) (hn : n ≤ 50) : Nice (n + 1) (L * (B + 2) + 3) (.lst l) := by
  obtain ⟨ps, es, hlen, hps⟩ := nice_pys h
  have so : sOk (PyData.list ps).shown = true := by
    show sOk (listText (PyData.shownAll ps)) = true
    rw [shownAll_map]
    unfold listText
    refine sok_app (sok_textFrom _ _ _ (by decide +kernel) fun t ht => ?_) (by decide +kernel)
    obtain ⟨p, hp, rfl⟩ := List.mem_map.mp ht
    exact (hps p hp).2.1.sok
  have ln : (PyData.list ps).shown.length ≤ L * (B + 2) + 3 := by
    show (listText (PyData.shownAll ps)).length ≤ _
    rw [shownAll_map]
    have h1 := listText_len_le (ps.map PyData.shown)
    have h2 := sum_le (l := ps.map PyData.shown) (f := (·.length)) (B := B) fun t ht => by
      obtain ⟨p, hp, rfl⟩ := List.mem_map.mp ht
      exact (hps p hp).2.2
    rw [List.length_map] at h1 h2
    have : ps.length * B + ps.length * 2 ≤ L * (B + 2) := by
      rw [← Nat.mul_add]
      exact Nat.mul_le_mul_right _ (by omega)
    omega
  exact ⟨.list ps, by show (D.pys l).map PyData.list = _; rw [es]; rfl, canLay_all fun p hp => (hps p hp).1, ⟨showableAll_of fun p hp => (hps p hp).2.1.sh, hasDictAll_of fun p hp => (hps p hp).2.1.hd, Nat.add_le_add_right (depth_all fun p hp => (hps p hp).2.1.dp) 1, so⟩, ln⟩
/-- values nested so deep, with a text -/
def bnd : Nat → Nat
  | 0 => 40
  | n + 1 => 3 * (bnd n + 2) + 3
theorem bnd_mono {n m : Nat} (h : n ≤ m) : bnd n ≤ bnd m := by
  induction h with
  | refl => exact Nat.le_refl _
  | step _ ih => exact Nat.le_trans ih (by show _ ≤ 3 * (bnd _ + 2) + 3; omega)
def HasRepr (d : D) : Prop := ∃ s, sOk s = true ∧ gReprS [d] = W.ret (false, .str s)
def NV (n : Nat) (d : D) : Prop := Nice n (bnd n) d ∧ HasRepr d
theorem NV.mono {n m : Nat} {d : D} (h : NV n d) (k : n ≤ m) : NV m d := ⟨h.1.mono k (bnd_mono k), h.2⟩
theorem bnd_le {n : Nat} (h : n ≤ 10) : bnd n ≤ 5000000 := Nat.le_trans (bnd_mono h) (by decide +kernel)
theorem nv_tup {n : Nat} {l : List D} (h : ∀ d ∈ l, NV n d) (hl : l.length ≤ 3) (hn : n ≤ 9) : NV (n + 1) (.tup l) := by
  have N := Nice.tup 3 (fun d hd => (h d hd).1) hl
  obtain ⟨s, s1, s2⟩ := N.repr (by omega) (by have := bnd_le (n := n + 1) (by omega); have e : bnd (n + 1) = 3 * (bnd n + 2) + 3 := rfl; rw [e] at this; rw [sizeLine_eq]; omega)
  exact ⟨N, s, s1, s2⟩
theorem nv_lst {n : Nat} {l : List D} (h : ∀ d ∈ l, NV n d) (hl : l.length ≤ 3) (hn : n ≤ 9) : NV (n + 1) (.lst l) := by
  have N := Nice.lst 3 (fun d hd => (h d hd).1) hl (by omega)
  obtain ⟨s, s1, s2⟩ := nice_reprL 3 (fun d hd => (h d hd).1) hl (by omega) (by have := bnd_le (n := n + 1) (by omega); have e : bnd (n + 1) = 3 * (bnd n + 2) + 3 := rfl; rw [e] at this; rw [sizeLine_eq]; omega)
  exact ⟨N, s, s1, s2⟩
theorem nv_int (i : Int) (h0 : (PyData.int i).showable = true) (h1 : sOk (PyData.int i).shown = true) (h2 : (PyData.int i).shown.length ≤ 40) (h3 : i.natAbs.log2 < 1920) (h4 : sOk (Str.ofString (toString i)) = true) : NV 0 (.int i) :=
  ⟨⟨.int i, rfl, rfl, ⟨h0, rfl, Nat.le_refl _, h1⟩, h2⟩, _, h4, if_pos h3⟩
theorem nv_str (x : Str) (h0 : (PyData.str x).canLay0 = true) (h1 : sOk (PyData.str x).shown = true) (h2 : (PyData.str x).shown.length ≤ 40) (h3 : (reprText x).length ≤ 40) (h4 : sOk (reprText x) = true) : NV 0 (.str x) :=
  ⟨⟨.str x, rfl, h0, ⟨rfl, rfl, Nat.le_refl _, h1⟩, h2⟩, _, h4, if_pos (Nat.le_trans h3 (by rw [sizeLine_eq]; decide))⟩
theorem nv_bl (b : Bool) : NV 0 (.bl b) := ⟨nice_bl b, _, by cases b <;> decide +kernel, rfl⟩
theorem nv_non : NV 0 .non := ⟨nice_non, _, by decide +kernel, rfl⟩
theorem pow18 : gPow (.int 10) (.int 18) = W.ret (.int 1000000000000000000) := by
  show (if (0 : Int) ≤ 18 ∧ (18 : Int) ≤ 1000000 ∧ (10 : Int).natAbs < 2 ^ 64 then W.ret (D.int (10 ^ (18 : Int).toNat)) else W.fail) = _
  rw [if_pos (by decide +kernel)]
  rfl
def numsL : List D := [.int 0, .int 1, .int (-1), .int 7, .int 1000000000000000000, .bl true, .bl false, .non]
def wordsL : List D := [.str "", .str "Ann", .str "longer", .str " ", .str "-", .str "a1", .str "meet 1 a b", .tup [.int 0, .int 3], .tup [.int 3, .int 0]]
theorem nums_nv : ∀ x ∈ numsL, NV 1 x := fun x hx => by
  simp only [numsL, List.mem_cons, List.not_mem_nil, or_false] at hx
  rcases hx with rfl | rfl | rfl | rfl | rfl | rfl | rfl | rfl <;> first | exact (nv_int _ (by decide +kernel) (by decide +kernel) (by decide +kernel) (by decide +kernel) (by decide +kernel)).mono (by decide) | exact (nv_bl _).mono (by decide) | exact nv_non.mono (by decide)
theorem nv_small {a b : Int} (ha : NV 0 (.int a)) (hb : NV 0 (.int b)) : NV 1 (.tup [.int a, .int b]) := nv_tup (fun d hd => by
  simp only [List.mem_cons, List.not_mem_nil, or_false] at hd
  rcases hd with rfl | rfl
  · exact ha
  · exact hb) (by show 2 ≤ 3; decide) (by decide)
theorem nv0 : NV 0 (.int 0) := nv_int _ (by decide +kernel) (by decide +kernel) (by decide +kernel) (by decide +kernel) (by decide +kernel)
theorem nv3 : NV 0 (.int 3) := nv_int _ (by decide +kernel) (by decide +kernel) (by decide +kernel) (by decide +kernel) (by decide +kernel)
theorem words_nv : ∀ x ∈ wordsL, NV 1 x := fun x hx => by
  simp only [wordsL, List.mem_cons, List.not_mem_nil, or_false] at hx
  rcases hx with rfl | rfl | rfl | rfl | rfl | rfl | rfl | rfl | rfl <;> first | exact nv_small nv0 nv3 | exact nv_small nv3 nv0 | exact (nv_str _ (by decide +kernel) (by decide +kernel) (by decide +kernel) (by decide +kernel) (by decide +kernel)).mono (by decide)
def an0 : En → WS := (mSet [0] 2 (mCall 2 sem__law_draw [] (mCons (mVar 0) (mCons (mC (.int 11)) mNil))))
def an1 (rec : List D → Rt) : En → WS := (mIf (mAnd (mTest (mOp gGt (mVar 1) (mC (.int 0)))) (mTest (mOp gLt (mVar 2) (mC (.int 4))))) (mSeq (mSet [0, 1] 3 (mLc (mRng1 (mCons (mDe (mCall 2 sem__law_draw [] (mCons (mVar 0) (mCons (mC (.int 4)) mNil)))) mNil)) [4] (pName 4) mYes (mDe (mCall 2 rec [] (mCons (mVar 0) (mCons (mOp gSub (mVar 1) (mC (.int 1))) mNil)))))) (mRet (mIfE (mTest (mOp gLt (mVar 2) (mC (.int 2)))) (mBlt (gTuple) (mCons (mVar 3) mNil)) (mDr (mVar 3))))) mSkip)
def an2 : En → WS := (mIf (mTest (mOp gLt (mVar 2) (mC (.int 7)))) (mRet (mCall 2 sem__law_pick [] (mCons (mVar 0) (mCons (mDe (mLst (mCons (mC (.int 0)) (mCons (mC (.int 1)) (mCons (mNeg (mC (.int 1))) (mCons (mC (.int 7)) (mCons (mOp gPow (mC (.int 10)) (mC (.int 18))) (mCons (mC (.bl true)) (mCons (mC (.bl false)) (mCons (mC .non) mNil)))))))))) mNil)))) mSkip)
def an3 : En → WS := (mRet (mCall 2 sem__law_pick [] (mCons (mVar 0) (mCons (mDe (mLst (mCons (mC (.str "")) (mCons (mC (.str "Ann")) (mCons (mC (.str "longer")) (mCons (mC (.str " ")) (mCons (mC (.str "-")) (mCons (mC (.str "a1")) (mCons (mC (.str "meet 1 a b")) (mCons (mTup (mCons (mC (.int 0)) (mCons (mC (.int 3)) mNil))) (mCons (mTup (mCons (mC (.int 3)) (mCons (mC (.int 0)) mNil))) mNil))))))))))) mNil))))
def an (rec : List D → Rt) : En → WS := mSeq an0 (mSeq (an1 rec) (mSeq an2 an3))
theorem any_step {rec : List D → Rt} {k : Int} {n : Nat} (hk : k ≤ 100) (hn : n ≤ 9) (hrec : 1 ≤ k → ∀ (Q : Bool × D → Prop) (E : Ex → Prop), (∀ b d, NV n d → Q (b, d)) → rec [.box 0, .int (k - 1)] Q E) (Q : Bool × D → Prop) (E : Ex → Prop) (q : ∀ b d, NV (n + 1) d → Q (b, d)) : runBody 5 (an rec) [.box 0, .int k] Q E := by
  have z := sizeLine_ge
  have l1 : ∀ {d : D}, NV 1 d → NV (n + 1) d := fun h => h.mono (by omega)
  refine r_body (show 2 ≤ 5 by decide) fun ρ h => ?_
  replace h : EK 5 ρ [(0, false, .box 0), (1, false, .int k)] := h
  refine r_seq (r_set h fun R hR => draw_run (hR.e rfl) (e_c (.int 11)) ⟨by decide, by decide⟩ fun r r0 r1 => q_setF h rfl (by decide) fun ρ1 h1 => r_nx ?_)
  have s1 : 1 ≤ sizeLine := by omega
  have s2 : 2 ≤ sizeLine := by omega
  refine r_seq (w_if h1 fun R hR => ⟨_, e_and (e_test (e_op (hR.e rfl) (e_c _) (gt_int _ _))) fun _ => e_test (e_op (hR.e rfl) (e_c _) (lt_int _ _)), fun ht => ?_, fun hf => r_skip (r_nx ?_)⟩)
  · have k1 : 1 ≤ k := by
      have := (Bool.and_eq_true_iff.mp ht).1
      have := of_decide_eq_true this
      omega
    refine r_seq (r_set h1 fun R hR => r_lc (r_bind (r_cons (r_de (draw_run (hR.e rfl) (e_c (.int 4)) ⟨by decide, by decide⟩ fun c c0 c1 => r_nil ?_)))))
    obtain ⟨j, rfl⟩ := Int.eq_ofNat_of_zero_le c0
    have gr : rng1D [.int (j : Int)] = W.ret (rngD 0 j) := rng1_eq (by omega)
    try simp only []
    rw [gr]
    unfold rngD
    refine r_ret (r_szd (by rw [List.length_map, List.length_range]; omega) (r_bind (r_lcD (fun k : Nat => D.int (0 + (k : Int))) (fun k => [(4, D.int (0 + (k : Int)))]) (fun _ y => NV n y) (fun _ => False) hR (List.range j) (fun x hx => ⟨⟨rfl, rfl, rfl, rfl⟩, fun R' h' K K2 Q s t => ?_⟩) fun ys hys => ?_)))
    · exact r_ret (r_t (r_bind (r_calm (r_de (r_call (e_cons (h'.e (i := 0) rfl) (e_cons (e_op (h'.e (i := 1) (d := .int k) rfl) (e_c _) (sub_int _ _)) e_nil) _ _ (r_callif rfl (hrec k1 _ _ fun b d hd => t _ hd))))))))
    have hy : ∀ y ∈ ys, NV n y := by
      clear q
      generalize List.range j = zs at hys
      induction hys with
      | nil => exact fun y h => nomatch h
      | skip c _ _ => exact absurd c id
      | take hx _ ih =>
        intro y h
        rcases List.mem_cons.mp h with rfl | h
        · exact hx
        · exact ih y h
    have yl : ys.length ≤ 3 := by
      have := hys.len
      rw [List.length_range] at this
      omega
    refine r_ret (q_setF h1 rfl (by decide) fun ρ2 h2 => r_nx ?_)
    refine r_retE h2 fun R hR => r_ifE (e_test (e_op (hR.e rfl) (e_c _) (lt_int _ _)) _ _ ?_)
    cases decide (r < 2) with
    | true => exact r_t ((v_blt (e_cons (hR.e rfl) e_nil) (tup_lst _)).go fun b => r_rt (r_endR (q b _ (nv_tup hy yl hn))))
    | false => exact r_f ((v_dr (hR.e rfl)).go fun b => r_rt (r_endR (q b _ (nv_lst hy yl hn))))
  · refine r_seq (w_if h1 fun R hR => ⟨_, e_test (e_op (hR.e rfl) (e_c _) (lt_int _ _)), fun _ => ?_, fun _ => r_skip (r_nx ?_)⟩)
    · refine r_retE h1 fun R hR => pick_run (l := numsL) (hR.e rfl) (e_de (v_lst (ds := numsL) (e_cons (e_c _) (e_cons (e_c _) (e_cons (Ev.of rfl) (e_cons (e_c _) (e_cons (e_op (e_c _) (e_c _) pow18) (e_cons (e_c _) (e_cons (e_c _) (e_cons (e_c _) e_nil)))))))) (by show 8 ≤ sizeLine; omega))) (by decide) (by decide) fun x hx => r_rt (r_endR (q _ _ (l1 (nums_nv x hx))))
    · refine r_retE h1 fun R hR => pick_run (l := wordsL) (hR.e rfl) (e_de (v_lst (ds := wordsL) (e_cons (e_c _) (e_cons (e_c _) (e_cons (e_c _) (e_cons (e_c _) (e_cons (e_c _) (e_cons (e_c _) (e_cons (e_c _) (e_cons (e_tup (e_cons (e_c _) (e_cons (e_c _) e_nil)) s2) (e_cons (e_tup (e_cons (e_c _) (e_cons (e_c _) e_nil)) s2) e_nil))))))))) (by show 9 ≤ sizeLine; omega))) (by decide) (by decide) fun x hx => r_endR (q _ _ (l1 (words_nv x hx)))
theorem any1 {k : Int} (hk : k ≤ 0) (Q : Bool × D → Prop) (E : Ex → Prop) (q : ∀ b d, NV 1 d → Q (b, d)) : sem__law_any_1 [.box 0, .int k] Q E := any_step (rec := sem__law_any_0) (n := 0) (by omega) (by decide) (fun h => by omega) Q E q
theorem any2 {k : Int} (hk : k ≤ 1) (Q : Bool × D → Prop) (E : Ex → Prop) (q : ∀ b d, NV 2 d → Q (b, d)) : sem__law_any_2 [.box 0, .int k] Q E := any_step (rec := sem__law_any_1) (n := 1) (by omega) (by decide) (fun h => any1 (by omega)) Q E q
theorem any3 {k : Int} (hk : k ≤ 2) (Q : Bool × D → Prop) (E : Ex → Prop) (q : ∀ b d, NV 3 d → Q (b, d)) : sem__law_any_3 [.box 0, .int k] Q E := any_step (rec := sem__law_any_2) (n := 2) (by omega) (by decide) (fun h => any2 (by omega)) Q E q
theorem any4 {k : Int} (hk : k ≤ 3) (Q : Bool × D → Prop) (E : Ex → Prop) (q : ∀ b d, NV 4 d → Q (b, d)) : sem__law_any_4 [.box 0, .int k] Q E := any_step (rec := sem__law_any_3) (n := 3) (by omega) (by decide) (fun h => any3 (by omega)) Q E q
theorem any5 {k : Int} (hk : k ≤ 4) (Q : Bool × D → Prop) (E : Ex → Prop) (q : ∀ b d, NV 5 d → Q (b, d)) : sem__law_any_5 [.box 0, .int k] Q E := any_step (rec := sem__law_any_4) (n := 4) (by omega) (by decide) (fun h => any4 (by omega)) Q E q
theorem any6 {k : Int} (hk : k ≤ 5) (Q : Bool × D → Prop) (E : Ex → Prop) (q : ∀ b d, NV 6 d → Q (b, d)) : sem__law_any_6 [.box 0, .int k] Q E := any_step (rec := sem__law_any_5) (n := 5) (by omega) (by decide) (fun h => any5 (by omega)) Q E q
theorem any7 {k : Int} (hk : k ≤ 6) (Q : Bool × D → Prop) (E : Ex → Prop) (q : ∀ b d, NV 7 d → Q (b, d)) : sem__law_any_7 [.box 0, .int k] Q E := any_step (rec := sem__law_any_6) (n := 6) (by omega) (by decide) (fun h => any6 (by omega)) Q E q
theorem any8 {k : Int} (hk : k ≤ 7) (Q : Bool × D → Prop) (E : Ex → Prop) (q : ∀ b d, NV 8 d → Q (b, d)) : sem__law_any [.box 0, .int k] Q E := any_step (rec := sem__law_any_7) (n := 7) (by omega) (by decide) (fun h => any7 (by omega)) Q E q
end FbL
end

section
set_option Elab.async false
set_option linter.all false
set_option maxRecDepth 100000
set_option maxHeartbeats 1000000
/-! k01: the law. -/
namespace FbL
open PySem PySem.Spec PyProof.Rows L2 Fb TL
def kw0 : En → WS := (mSet [0] 1 (mCall 1 sem__law_deal [] (mCons (mVar 0) mNil)))
def kw1B0 : En → WS := (mSet [1] 3 (mCall 2 sem__law_any [] (mCons (mVar 1) (mCons (mC (.int 7)) mNil))))
def kw1B1 : En → WS := (mCelS 3 (mSet [3, 2] 3 (mIfE (mTest (mOp (gEq false) (mVar 2) (mC (.int 0)))) (mLst (mCons (mVar 3) mNil)) (mDr (mVar 3)))))
def kw1B2 : En → WS := (mSet [3] 4 (mLst (mCons (mExv "InvalidPlan" "word" (mPtr 3)) (mCons (mExvK "InvalidText" "at" (mCons (mPtr 3) mNil)) (mCons (mExv "InvalidWorld" "at" (mPtr 3)) (mCons (mExvK "InvalidLooks" "at" (mCons (mPtr 3) mNil)) mNil))))))
def kw1B3 : En → WS := (mSet [4, 3] 4 (mOpR gAdd (mVar 4) (mDe (mLst (mCons (mExv "Refused" "at" (mPtr 3)) (mCons (mExv0 "InvalidCommand") (mCons (mExv0 "NoWorld") (mCons (mExv "NoName" "name" (mPtr 3)) mNil))))))))
def kw1B4 : En → WS := (mSet [4] 5 (mLst (mCons (mXe ["InvalidPlan"] "word" (mOp gIx (mVar 4) (mC (.int 0)))) (mCons (mXe ["InvalidText", "InvalidWorld", "InvalidLooks", "Refused"] "at" (mOp gIx (mVar 4) (mC (.int 1)))) (mCons (mXe ["InvalidText", "InvalidWorld", "InvalidLooks", "Refused"] "at" (mOp gIx (mVar 4) (mC (.int 2)))) (mCons (mXe ["InvalidText", "InvalidWorld", "InvalidLooks", "Refused"] "at" (mOp gIx (mVar 4) (mC (.int 3)))) (mCons (mXe ["InvalidText", "InvalidWorld", "InvalidLooks", "Refused"] "at" (mOp gIx (mVar 4) (mC (.int 4)))) (mCons (mXe ["NoName"] "name" (mOp gIx (mVar 4) (mC (.int 7)))) mNil))))))))
def kw1B5 : En → WS := (mSet [5, 3] 5 (mOpR gAdd (mVar 5) (mDe (mLst (mCons (mXe ["InvalidPlan"] "word" (mExvK "InvalidPlan" "word" (mCons (mPtr 3) mNil))) (mCons (mXe ["InvalidText", "InvalidWorld", "InvalidLooks", "Refused"] "at" (mExvK "Refused" "at" (mCons (mPtr 3) mNil))) (mCons (mXe ["NoName"] "name" (mExvK "NoName" "name" (mCons (mPtr 3) mNil))) mNil)))))))
def kw1B6 : En → WS := (mIf (mTest (mOp (gEq false) (mVar 2) (mC (.int 0)))) (mAppC [] 3 (mC (.str "late"))) mSkip)
def kw1B7 : En → WS := (mIf (mTest (mOp (gEq true) (mDe (mLc (mWalk (mVar 5)) [7] (pName 7) (mTest (mOp (gEq true) (mDe (mBlt (gReprS) (mCons (mAli 7 3) mNil))) (mDe (mBlt (gReprS) (mCons (mAli 3 3) mNil))))) (mC (.int 1)))) (mDe (mLst mNil)))) (mRet (mDr (mC (.bl false)))) mSkip)
def kw1B8B0 : En → WS := (mIf (mTest (mOp (gEq true) (mDe (mCall 1 sem__law_sorts [] (mCons (mVar 7) mNil))) (mDe (mLc (mRng1 (mCons (mC (.int 8)) mNil)) [8] (pName 8) mYes (mOp (gEq false) (mVar 6) (mVar 8)))))) (mRet (mDr (mC (.bl false)))) mSkip)
def kw1B8B1 : En → WS := (mIf (mOr (mTest (mOp (gEq true) (mDe (mBlt (gIsV isVM) (mCons (mVar 7) (mCons (mC (.cls "BoreError")) mNil)))) (mOp gLt (mVar 6) (mC (.int 7))))) (mTest (mOp (gEq true) (mDe (mBlt (gIsV isVM) (mCons (mVar 7) (mCons (mC (.ty "ValueError")) mNil)))) (mOp gLt (mVar 6) (mC (.int 7)))))) (mRet (mDr (mC (.bl false)))) mSkip)
def kw1B8B2 : En → WS := (mIf (mTest (mOp (gEq true) (mDe (mBlt (gIsV isVM) (mCons (mVar 7) (mCons (mC (.ty "KeyError")) mNil)))) (mOp (gEq false) (mVar 6) (mC (.int 7))))) (mRet (mDr (mC (.bl false)))) mSkip)
def kw1B8B : En → WS := mSeq kw1B8B0 (mSeq kw1B8B1 kw1B8B2)
def kw1B8 : En → WS := (mFor [4] (mEnum (mCons (mVar 4) mNil)) (pTup 2 (pCons (pName 6) (pCons (pName 7) pNil))) kw1B8B)
def kw1B : En → WS := mSeq kw1B0 (mSeq kw1B1 (mSeq kw1B2 (mSeq kw1B3 (mSeq kw1B4 (mSeq kw1B5 (mSeq kw1B6 (mSeq kw1B7 kw1B8)))))))
def kw1 : En → WS := (mFor [] (mRng1 (mCons (mC (.int 8)) mNil)) (pName 2) kw1B)
def kw2 : En → WS := (mRet (mDr (mC (.bl true))))
def kw : En → WS := mSeq kw0 (mSeq kw1 kw2)
theorem kw_sem : sem_law = runBody 9 kw := rfl
/-! ### rules -/
def ptrD : D → D
  | .cel x _ => .raw x
  | d => d
def valD : D → D
  | .cel _ ds => .lst ds
  | d => d
section
variable {n : Nat} {R : Ro} {l : List (Nat × D)}
theorem e_ptr (hR : RK n R l) {i : Nat} {d : D} (e : l.lookup i = some d) : Ev (mPtr i R) (ptrD d) := fun Q E q => by
  unfold mPtr
  rw [hR.get i d e]
  cases d <;> exact q
theorem e_aliS (hR : RK n R l) {i j : Nat} {d : D} (e : l.lookup i = some d) (hp : d ≠ .raw 0 ∧ (∀ x, d ≠ .raw x)) : Ev (mAli i j R) (valD d) := fun Q E q => by
  unfold mAli
  rw [hR.get i d e]
  cases d with
  | raw x => exact absurd rfl (hp.2 x)
  | _ => exact q
theorem e_aliP (hR : RK n R l) {i j : Nat} {x : Addr} {ds : List D} (e : l.lookup i = some (.raw x)) (e2 : l.lookup j = some (.cel x ds)) : Ev (mAli i j R) (.lst ds) := fun Q E q => by
  unfold mAli
  rw [hR.get i _ e, hR.get j _ e2]
  show (if x = x then W.ret (D.lst ds) else W.fail : W Ex D) Q E
  rw [if_pos rfl]
  exact q
theorem r_exv {c f : Str} {m : Ro → W Ex D} {d : D} {Q : D → Prop} {E : Ex → Prop} (h : Ev (m R) d) (q : ∀ x dd, Q (.erv x c (some dd) [(f, d)])) : mExv c f m R Q E := r_bind (h _ _ fun p _ => q p.1 p.2)
theorem r_exvK {c f : Str} {a : Ro → W Ex (List D)} {d : D} {Q : D → Prop} {E : Ex → Prop} (h : Ev (a R) [d]) (q : ∀ x dd, Q (.erv x c (some dd) [(f, d)])) : mExvK c f a R Q E := r_bind (h _ _ fun p _ => q p.1 p.2)
theorem r_exv0 {c : Str} {Q : D → Prop} {E : Ex → Prop} (q : ∀ x, Q (.erv x c none [])) : mExv0 c R Q E := fun x _ => q x
theorem e_xe {cs : List Str} {f c : Str} {m : Ro → W Ex D} {x dd : Addr} {fs : List (Str × D)} {d : D} (h : Ev (m R) (.erv x c (some dd) fs)) (hc : c ∈ cs) (hl : fs.lookup f = some d) : Ev (mXe cs f m R) d := fun Q E q => r_bind (h _ _ (by
  show (if c ∈ cs ∧ (some dd).isSome = true then W.got (fs.lookup f) fun y => W.ret y else W.fail : W Ex D) Q E
  rw [if_pos ⟨hc, rfl⟩, hl]
  exact q))
theorem e_xeK {cs : List Str} {f c : Str} {a : Ro → W Ex (List D)} {d : D} (h : Ev (a R) [d]) (hc : c ∈ cs) : Ev (mXe cs f (mExvK c f a) R) d := fun Q E q => r_bind (r_exvK h fun x dd => by
  show (if c ∈ cs ∧ (some dd).isSome = true then W.got ([(f, d)].lookup f) fun y => W.ret y else W.fail : W Ex D) Q E
  rw [if_pos ⟨hc, rfl⟩, show [(f, d)].lookup f = some d by simp]
  exact q)
end
section
variable {n : Nat} {ρ : En} {l : List (Nat × Bool × D)} {Q : Fl × En → Prop} {E : Ex × En → Prop}
theorem r_celS {i : Nat} {fz : List Nat} {m : Ro → W Ex (Bool × D)} (h : EK n ρ l) (q : ∀ R, RK n R (seeK fz l) → m R (fun r => celQ i Q (.nx, asg fz i r ρ)) (fun x => E (x, ρ))) : mCelS i (mSet fz i m) ρ Q E := q _ (h.see fz)
theorem cel_true {i : Nat} {fz : List Nat} {ds : List D} (h : EK n ρ l) (hf : AllF l = true) (hi : i < n) (q : ∀ x ρ', EK n ρ' ((i, true, .cel x ds) :: (i, false, .lst ds) :: l) → Q (.nx, ρ')) : celQ i Q (.nx, asg fz i (true, .lst ds) ρ) := by
  have k := h.asgF hf fz hi (true, .lst ds)
  have e : (asg fz i (true, D.lst ds) ρ)[i]? = some (some (true, .lst ds)) := by
    have hl : (asg fz i (true, D.lst ds) ρ).length = n := k.len
    unfold asg at hl ⊢
    rw [List.length_set] at hl
    exact List.getElem?_set_self (by rw [hl]; exact hi)
  unfold celQ
  rw [e]
  exact fun x => q x _ (k.set hi (true, .cel x ds))
theorem cel_false {i : Nat} {fz : List Nat} {d : D} (h : EK n ρ l) (hf : AllF l = true) (hi : i < n) (q : ∀ ρ', EK n ρ' ((i, false, d) :: l) → Q (.nx, ρ')) : celQ i Q (.nx, asg fz i (false, d) ρ) := by
  have k := h.asgF hf fz hi (false, d)
  have e : (asg fz i (false, d) ρ)[i]? = some (some (false, d)) := by
    have hl : (asg fz i (false, d) ρ).length = n := k.len
    unfold asg at hl ⊢
    rw [List.length_set] at hl
    exact List.getElem?_set_self (by rw [hl]; exact hi)
  unfold celQ
  rw [e]
  exact q _ k
theorem r_appC {i : Nat} {fz : List Nat} {m : Ro → W Ex D} {x : Addr} {ds : List D} {d : D} (h : EK n ρ l) (e : l.lookup i = some (true, .cel x ds)) (hi : i < n) (hm : ∀ R, RK n R (seeK fz l) → Ev (m R) d) (hd : imm d = true) (hz : ds.length < sizeLine) (q : ∀ ρ', EK n ρ' ((i, true, .cel x (ds ++ [d])) :: l) → Q (.nx, ρ')) : mAppC fz i m ρ Q E := by
  obtain ⟨b', e', hb⟩ := h.get i true _ e
  obtain rfl := hb rfl
  unfold mAppC
  rw [show slotC ρ[i]? = some (x, ds) by rw [e']; rfl]
  show (m (see fz ρ)) (fun d => (W.got (tak fz i d ρ) fun ρ' => if ds.length < sizeLine then W.ret (Fl.nx, ρ'.set i (some (true, D.cel x (ds ++ [d])))) else W.fail) Q E) (fun y => E (y, ρ))
  refine hm _ (h.see fz) _ _ ?_
  show (W.got (tak fz i d ρ) fun ρ' => if ds.length < sizeLine then W.ret (Fl.nx, ρ'.set i (some (true, D.cel x (ds ++ [d])))) else W.fail) Q E
  rw [show tak fz i d ρ = some ρ from if_pos hd]
  show (if ds.length < sizeLine then W.ret (Fl.nx, ρ.set i (some (true, D.cel x (ds ++ [d])))) else W.fail) Q E
  rw [if_pos hz]
  exact q _ (h.set hi _)
/-- what is put into a slot, where nothing that is held alone is let go -/
theorem r_setP {i j : Nat} {fz : List Nat} {r : D} {b : Bool} {sd : D} (h : EK n ρ ((j, b, sd) :: l)) (hf : AllF l = true) (hi : i < n) (hb : b = true → immTop r = true) {Q : En → Prop} (q : ∀ ρ', EK n ρ' ((i, false, r) :: (j, b, sd) :: l) → Q ρ') : SetK fz i (true, r) ρ Q := by
  cases b with
  | true => exact r_setI (r := (true, r)) h (hb rfl) hi fun ρ' h' => q ρ' h'.weak
  | false => exact q_setF h hf hi fun ρ' h' => q ρ' h'
end
/-! ### of which classes -/
def clsN : List Str := ["InvalidPlan", "InvalidText", "InvalidWorld", "InvalidLooks", "Refused", "InvalidCommand", "NoWorld", "NoName"]
def rowN (c : Str) : List Bool := clsN.map fun m => c == m
theorem isv_cls : ∀ c ∈ clsN, ∀ m ∈ clsN, ((isVM.lookup c).bind fun t => t.1.lookup m) = some (c == m) := by decide +kernel
theorem isv_bore : ∀ c ∈ clsN, ((isVM.lookup c).bind fun t => t.1.lookup ("BoreError" : Str)) = some (!(c == "NoName")) := by decide +kernel
theorem isv_val : ∀ c ∈ clsN, ((isVM.lookup c).bind fun t => t.2.lookup "ValueError") = some (!(c == "NoName")) := by decide +kernel
theorem isv_key : ∀ c ∈ clsN, ((isVM.lookup c).bind fun t => t.2.lookup "KeyError") = some (c == "NoName") := by decide +kernel
theorem e_isv {R : Ro} {i : Nat} {x : Addr} {c m : Str} {dd : Option Addr} {fs : List (Str × D)} {b : Bool} (v : Ev (mVar i R) (.erv x c dd fs)) (h : ((isVM.lookup c).bind fun t => t.1.lookup m) = some b) : Ev (mDe (mBlt (gIsV isVM) (mCons (mVar i) (mCons (mC (.cls m)) mNil))) R) (.bl b) := by
  have e : isV isVM (.erv x c dd fs) (.cls m) = some (.bl b) := by
    show ((isVM.lookup c).bind fun t => (t.1.lookup m).map D.bl) = _
    rcases e1 : isVM.lookup c with _ | t
    · rw [e1] at h; cases h
    · rw [e1] at h
      show (t.1.lookup m).map D.bl = _
      rw [show t.1.lookup m = some b from h]; rfl
  refine e_de (v_blt (f := false) (e_cons v (e_cons (e_c _) e_nil)) ?_)
  unfold gIsV g2
  show (match isV isVM (.erv x c dd fs) (.cls m) with | some d => W.ret (false, d) | none => W.fail : Rt) = _
  rw [e]
theorem e_isvT {R : Ro} {i : Nat} {x : Addr} {c : Str} {u : String} {dd : Option Addr} {fs : List (Str × D)} {b : Bool} (v : Ev (mVar i R) (.erv x c dd fs)) (h : ((isVM.lookup c).bind fun t => t.2.lookup u) = some b) : Ev (mDe (mBlt (gIsV isVM) (mCons (mVar i) (mCons (mC (.ty u)) mNil))) R) (.bl b) := by
  have e : isV isVM (.erv x c dd fs) (.ty u) = some (.bl b) := by
    show ((isVM.lookup c).bind fun t => (t.2.lookup u).map D.bl) = _
    rcases e1 : isVM.lookup c with _ | t
    · rw [e1] at h; cases h
    · rw [e1] at h
      show (t.2.lookup u).map D.bl = _
      rw [show t.2.lookup u = some b from h]; rfl
  refine e_de (v_blt (f := false) (e_cons v (e_cons (e_c _) e_nil)) ?_)
  unfold gIsV g2
  show (match isV isVM (.erv x c dd fs) (.ty u) with | some d => W.ret (false, d) | none => W.fail : Rt) = _
  rw [e]
def so0 : En → WS := (mSet [0] 1 (mLst (mCons (mDe (mBlt (gIsV isVM) (mCons (mVar 0) (mCons (mC (.cls "InvalidPlan")) mNil)))) (mCons (mDe (mBlt (gIsV isVM) (mCons (mVar 0) (mCons (mC (.cls "InvalidText")) mNil)))) (mCons (mDe (mBlt (gIsV isVM) (mCons (mVar 0) (mCons (mC (.cls "InvalidWorld")) mNil)))) mNil)))))
def so1 : En → WS := (mSet [1, 0] 1 (mOpR gAdd (mVar 1) (mDe (mLst (mCons (mDe (mBlt (gIsV isVM) (mCons (mVar 0) (mCons (mC (.cls "InvalidLooks")) mNil)))) (mCons (mDe (mBlt (gIsV isVM) (mCons (mVar 0) (mCons (mC (.cls "Refused")) mNil)))) (mCons (mDe (mBlt (gIsV isVM) (mCons (mVar 0) (mCons (mC (.cls "InvalidCommand")) mNil)))) mNil)))))))
def so2 : En → WS := (mRet (mOpR gAdd (mVar 1) (mDe (mLst (mCons (mDe (mBlt (gIsV isVM) (mCons (mVar 0) (mCons (mC (.cls "NoWorld")) mNil)))) (mCons (mDe (mBlt (gIsV isVM) (mCons (mVar 0) (mCons (mC (.cls "NoName")) mNil)))) mNil))))))
theorem so_sem : sem__law_sorts = runBody 2 (mSeq so0 (mSeq so1 so2)) := rfl
theorem sorts_ev {x : Addr} {c : Str} {dd : Option Addr} {fs : List (Str × D)} (hc : c ∈ clsN) : EvD (sem__law_sorts [.erv x c dd fs]) (.lst ((rowN c).map D.bl)) := fun Q E q => by
  have z := sizeLine_ge
  have k : ∀ {R : Ro} {l : List (Nat × D)} {m : Str}, RK 2 R l → l.lookup 0 = some (.erv x c dd fs) → m ∈ clsN → Ev (mDe (mBlt (gIsV isVM) (mCons (mVar 0) (mCons (mC (.cls m)) mNil))) R) (.bl (c == m)) := fun hR e hm => e_isv (hR.e e) (isv_cls c hc _ hm)
  rw [so_sem]
  refine r_body (show 1 ≤ 2 by decide) fun ρ h => ?_
  replace h : EK 2 ρ [(0, false, .erv x c dd fs)] := h
  refine r_seq (r_set h fun R hR => (e_lst (e_cons (k hR rfl (by decide +kernel)) (e_cons (k hR rfl (by decide +kernel)) (e_cons (k hR rfl (by decide +kernel)) e_nil))) (by show 3 ≤ sizeLine; omega)) _ _ (q_setF h rfl (by decide) fun ρ1 h1 => r_nx ?_))
  refine r_seq (r_set h1 fun R hR => (e_opR (hR.e (i := 1) rfl) (e_de (v_lst (e_cons (k hR rfl (by decide +kernel)) (e_cons (k hR rfl (by decide +kernel)) (e_cons (k hR rfl (by decide +kernel)) e_nil))) (by show 3 ≤ sizeLine; omega))) (add_lst (by show 3 + 3 ≤ sizeLine; omega))) _ _ (q_setF h1 rfl (by decide) fun ρ2 h2 => r_nx ?_))
  exact t_ret (d := .lst ((rowN c).map D.bl)) h2 (fun R hR => v_opR (hR.e (i := 1) rfl) (e_de (v_lst (e_cons (k hR rfl (by decide +kernel)) (e_cons (k hR rfl (by decide +kernel)) e_nil)) (by show 2 ≤ sizeLine; omega))) (add_lst (by show 6 + 2 ≤ sizeLine; omega))) fun b => r_endR (q b)
/-! ### the law -/
theorem ne_self {s : Str} (h : sOk s = true) : Ev (gEq true (.str s) (.str s)) (.bl false) := .of (not_self h)
theorem neB (b : Bool) : Ev (gEq true (.bl b) (.bl b)) (.bl false) := by cases b <;> exact .of rfl
def KW (ns : List Int) : List (Nat × Bool × D) := [(1, false, .box 0), (0, false, .scr ns)]
/-- the errors that are made -/
def Made8 (p : D) (l : List D) : Prop := ∃ x0 d0 x1 d1 x2 d2 x3 d3 x4 d4 x5 x6 x7 d7, l = [.erv x0 "InvalidPlan" (some d0) [("word", p)], .erv x1 "InvalidText" (some d1) [("at", p)], .erv x2 "InvalidWorld" (some d2) [("at", p)], .erv x3 "InvalidLooks" (some d3) [("at", p)], .erv x4 "Refused" (some d4) [("at", p)], .erv x5 "InvalidCommand" none [], .erv x6 "NoWorld" none [], .erv x7 "NoName" (some d7) [("name", p)]]
abbrev RowOk (c : Str) (n : Nat) : Prop := c ∈ clsN ∧ n < 8 ∧ rowN c = (List.range 8).map (fun j => n == j) ∧ (c == "NoName") = (n == 7)
theorem row0 : RowOk "InvalidPlan" 0 := by decide +kernel
theorem row1 : RowOk "InvalidText" 1 := by decide +kernel
theorem row2 : RowOk "InvalidWorld" 2 := by decide +kernel
theorem row3 : RowOk "InvalidLooks" 3 := by decide +kernel
theorem row4 : RowOk "Refused" 4 := by decide +kernel
theorem row5 : RowOk "InvalidCommand" 5 := by decide +kernel
theorem row6 : RowOk "NoWorld" 6 := by decide +kernel
theorem row7 : RowOk "NoName" 7 := by decide +kernel
theorem made_cls {p : D} {l : List D} (h : Made8 p l) : ∀ y ∈ l.zipIdx, ∃ x c dd fs, y.1 = D.erv x c dd fs ∧ RowOk c y.2 := by
  obtain ⟨x0, d0, x1, d1, x2, d2, x3, d3, x4, d4, x5, x6, x7, d7, rfl⟩ := h
  intro y hy
  simp only [List.zipIdx_cons, List.zipIdx_nil, List.mem_cons, List.not_mem_nil, or_false] at hy
  rcases hy with rfl | rfl | rfl | rfl | rfl | rfl | rfl | rfl
  · exact ⟨_, _, _, _, rfl, row0⟩
  · exact ⟨_, _, _, _, rfl, row1⟩
  · exact ⟨_, _, _, _, rfl, row2⟩
  · exact ⟨_, _, _, _, rfl, row3⟩
  · exact ⟨_, _, _, _, rfl, row4⟩
  · exact ⟨_, _, _, _, rfl, row5⟩
  · exact ⟨_, _, _, _, rfl, row6⟩
  · exact ⟨_, _, _, _, rfl, row7⟩
section
variable {ns : List Int} {k : Nat} {ρ : En} {Q : Fl × En → Prop} {E : Ex × En → Prop}
def KF (ns : List Int) (k : Nat) (l8 : List D) : List (Nat × Bool × D) := [(4, false, .lst l8), (2, false, .int (0 + (k : Int)))] ++ KW ns
theorem nice_bls {B : Nat} (bs : List Bool) (hB : 40 ≤ B) : ∀ d ∈ bs.map D.bl, Nice 0 B d := fun d hd => by
  obtain ⟨b, _, rfl⟩ := List.mem_map.mp hd
  exact (nice_bl b).mono (Nat.le_refl _) hB
/-- the classes are asked -/
theorem classes_run {p : D} {l8 : List D} (hm : Made8 p l8) (h : EK 9 ρ (KF ns k l8)) (q : ∀ ρ', EK 9 ρ' (KF ns k l8) → Q (.nx, ρ')) : kw1B8 ρ Q E := by
  have z := sizeLine_ge
  refine t_loop (fun y : D × Nat => D.tup [.int (y.2 : Int), y.1]) l8.zipIdx (fun y => [(6, .int (y.2 : Int)), (7, y.1)]) (fun _ (_ : Unit) => True) (fun _ => KF ns k l8) () h (fun R hR => e_enum (fun d : D => d) (e_cons (hR.e (i := 4) rfl) e_nil) (by rw [List.map_id']; exact walk_lst _) ⟨false, by rw [List.map_id']; rfl⟩) (fun ρ' h' => h'.pick (by unfold KF KW; walk_at "pk")) trivial (fun _ _ => rfl) (fun _ _ => rfl) (fun dn y rs _ _ e' hy ρ' h' Q' hq => ?_) fun ρ2 _ _ h2 => q ρ2 h2
  obtain ⟨x, c, dd, fs, ey, hc, hk, hr, hn⟩ := made_cls hm y hy
  obtain ⟨yd, yk⟩ := y
  have ey : yd = D.erv x c dd fs := ey
  subst ey
  replace h' : EK 9 ρ' ((7, false, .erv x c dd fs) :: (6, false, .int (yk : Int)) :: KF ns k l8) := h'
  have hk : yk < 8 := hk
  have hn : (c == "NoName") = (yk == 7) := hn
  have hr : rowN c = (List.range 8).map (fun j => yk == j) := hr
  have lt : ∀ {R : Ro}, Ev (mVar 6 R) (.int (yk : Int)) → Ev (mOp gLt (mVar 6) (mC (.int 7)) R) (.bl (!(c == "NoName"))) := fun v => Ev.as (e_op v (e_c (.int 7)) (lt_int _ _)) (congrArg D.bl (by
    rw [hn, Bool.eq_iff_iff, decide_eq_true_eq]
    simp only [Bool.not_eq_true', beq_eq_false_iff_ne, ne_eq]
    omega))
  refine r_seq (t_ifL h' (fun R hR => ?_) (r_nx ?_))
  · have v7 : Ev (mVar 7 R) (.erv x c dd fs) := hR.e (i := 7) rfl
    have so := e_de (e_call (k := 1) (e_cons v7 e_nil) rfl (sorts_ev hc))
    have lc := e_lcY (fun j : Nat => D.int (0 + (j : Int))) (vs := [8]) (p := pName 8) (e := mOp (gEq false) (mVar 6) (mVar 8)) (fun j => [(8, .int (0 + (j : Int)))]) (fun j => D.bl (yk == j)) hR (List.range 8) (e_rng1 (k := 8) (e_cons (e_c _) e_nil) (by decide)) (by rw [List.length_range]; omega) (fun j hj => ⟨⟨rfl, rfl, rfl, rfl⟩, fun R' hR' => Ev.as (e_op (hR'.e (i := 6) (d := .int (yk : Int)) rfl) (hR'.e (i := 8) (d := .int (0 + (j : Int))) rfl) (eq_int _ _ _)) (congrArg D.bl (by
      rw [Bool.eq_iff_iff]
      simp only [Bool.bne_false, beq_iff_eq]
      omega))⟩)
    have lc := e_de lc.d
    have ed : (List.range 8).map (fun j => D.bl (yk == j)) = (rowN c).map D.bl := by rw [hr, List.map_map]; rfl
    rw [ed] at lc
    exact e_test (e_op so lc (nice_eqL (nice_bls _ (Nat.le_refl 40)) (by decide) true))
  refine r_seq (t_ifL h' (fun R hR => ?_) (r_nx ?_))
  · have v7 : Ev (mVar 7 R) (.erv x c dd fs) := hR.e (i := 7) rfl
    have l6 := lt (hR.e (i := 6) rfl)
    refine Ev.as (e_or (a := false) (b := false) (e_test (e_opE (e_isv v7 (isv_bore c hc)) l6 (neB _))) fun _ => e_test (e_opE (e_isvT v7 (isv_val c hc)) l6 (neB _))) rfl
  · refine t_ifL h' (fun R hR => ?_) (hq ρ' () trivial (h'.pick (by unfold KF KW; walk_at "pk"))).1
    have v7 : Ev (mVar 7 R) (.erv x c dd fs) := hR.e (i := 7) rfl
    have e6 : Ev (mOp (gEq false) (mVar 6) (mC (.int 7)) R) (.bl (c == "NoName")) := Ev.as (e_op (hR.e (i := 6) (d := .int (yk : Int)) rfl) (e_c (.int 7)) (eq_int _ _ _)) (congrArg D.bl (by
      rw [hn, Bool.eq_iff_iff]
      simp only [Bool.bne_false, beq_iff_eq]
      omega))
    exact e_test (e_opE (e_isvT v7 (isv_key c hc)) e6 (neB _))
end
section
variable {ns : List Int} {k : Nat} {ρ : En} {Q : Fl × En → Prop} {E : Ex × En → Prop}
/-- the list's slot, the turn -/
def K3 (ns : List Int) (k : Nat) (b : Bool) (sd : D) : List (Nat × Bool × D) := [(3, b, sd), (2, false, .int (0 + (k : Int)))] ++ KW ns
theorem e_turn {R : Ro} {l : List (Nat × D)} (hR : RK 9 R l) (e : l.lookup 2 = some (.int (0 + (k : Int)))) : Ev (mTest (mOp (gEq false) (mVar 2) (mC (.int 0))) R) (k == 0) := e_test (Ev.as (e_op (hR.e (i := 2) e) (e_c (.int 0)) (eq_int _ _ _)) (congrArg D.bl (by
  rw [Bool.eq_iff_iff]
  simp only [Bool.bne_false, beq_iff_eq]
  omega)))
/-- the texts are alike -/
theorem texts_run {p sd v : D} {b : Bool} {l8 : List D} {ms : List D} (hms : ∀ y ∈ ms, y = p) (hl : ms.length ≤ 9) (hv : HasRepr v) (ha : ∀ R l, RK 9 R l → l.lookup 3 = some sd → (l.lookup 7 = some p → Ev (mAli 7 3 R) v) ∧ Ev (mAli 3 3 R) v)
    (h : EK 9 ρ ((5, false, .lst ms) :: (4, false, .lst l8) :: K3 ns k b sd)) (q : Q (.nx, ρ)) : kw1B7 ρ Q E := by
  have z := sizeLine_ge
  refine t_ifL h (fun R hR => ?_) q
  obtain ⟨s, s1, s2⟩ := hv
  have lc := e_lc (fun d : D => d) (m := mWalk (mVar 5)) (vs := [7]) (p := pName 7) (c := mTest (mOp (gEq true) (mDe (mBlt (gReprS) (mCons (mAli 7 3) mNil))) (mDe (mBlt (gReprS) (mCons (mAli 3 3) mNil))))) (e := mC (.int 1)) (fun d => [(7, d)]) (fun _ => false) (fun _ => D.int 1) hR ms (e_walk (hR.e (i := 5) rfl) (by rw [List.map_id']; exact walk_lst _)) (by omega) (fun y hy => ⟨⟨rfl, rfl, rfl, rfl⟩, fun R' hR' => ⟨?_, fun c => nomatch c⟩⟩)
  · have lc := e_de lc.d
    rw [show ms.filter (fun _ => false) = [] from List.filter_eq_nil_iff.mpr fun _ _ => by simp, List.map_nil] at lc
    exact e_test (e_op lc (e_de (v_lst e_nil (Nat.zero_le _))) rfl)
  · have ey := hms y hy
    subst ey
    obtain ⟨a1, a2⟩ := ha R' _ hR' rfl
    exact e_test (e_opE (e_de (v_blt (e_cons (a1 rfl) e_nil) s2)) (e_de (v_blt (e_cons a2 e_nil) s2)) (ne_self s1))
/-- errors made, what they keep -/
theorem errors_run {sd : D} {b : Bool} (hb : b = true → imm (ptrD sd) = true) (h : EK 9 ρ (K3 ns k b sd))
    (q : ∀ ρ' l8 ms, Made8 (ptrD sd) l8 → (∀ y ∈ ms, y = ptrD sd) → ms.length ≤ 9 → EK 9 ρ' ((5, false, .lst ms) :: (4, false, .lst l8) :: K3 ns k b sd) → mSeq kw1B6 (mSeq kw1B7 kw1B8) ρ' Q E) : mSeq kw1B2 (mSeq kw1B3 (mSeq kw1B4 (mSeq kw1B5 (mSeq kw1B6 (mSeq kw1B7 kw1B8))))) ρ Q E := by
  have z := sizeLine_ge
  obtain ⟨p, ep⟩ : ∃ p, p = ptrD sd := ⟨_, rfl⟩
  rw [← ep] at hb q
  have vp : ∀ {R : Ro} {l : List (Nat × D)}, RK 9 R l → l.lookup 3 = some sd → Ev (mPtr 3 R) p := fun hR e => by
    rw [ep]
    exact e_ptr hR e
  have i1 : ∀ (x : Addr) (c : Str) (d : Option Addr) (f : Str), b = true → imm (.erv x c d [(f, p)]) = true := fun x c d f e => by
    show (imm p && true) = true
    rw [hb e]; rfl
  refine r_seq (r_set h fun R hR => r_lst (r_cons (r_exv (vp hR rfl) fun x0 d0 => r_cons (r_exvK (e_cons (vp hR rfl) e_nil) fun x1 d1 => r_cons (r_exv (vp hR rfl) fun x2 d2 => r_cons (r_exvK (e_cons (vp hR rfl) e_nil) fun x3 d3 => r_nil (r_szd (by show 4 ≤ sizeLine; omega) (r_ret (r_setP h rfl (by decide) (fun e => ?_) fun ρ1 h1 => r_nx ?_)))))))))
  · show (imm _ && (imm _ && (imm _ && (imm _ && true)))) = true
    rw [i1 _ _ _ _ e, i1 _ _ _ _ e, i1 _ _ _ _ e, i1 _ _ _ _ e]; rfl
  obtain ⟨l4, e4⟩ : ∃ l4 : List D, l4 = [.erv x0 "InvalidPlan" (some d0) [("word", p)], .erv x1 "InvalidText" (some d1) [("at", p)], .erv x2 "InvalidWorld" (some d2) [("at", p)], .erv x3 "InvalidLooks" (some d3) [("at", p)]] := ⟨_, rfl⟩
  replace h1 : EK 9 ρ1 ((3, b, sd) :: (4, false, .lst l4) :: (2, false, .int (0 + (k : Int))) :: KW ns) := by
    rw [e4]
    exact h1.pick (by unfold KW; walk_at "pk")
  have im4 : b = true → imms l4 = true := fun e => by
    rw [e4]
    show (imm _ && (imm _ && (imm _ && (imm _ && true)))) = true
    rw [i1 _ _ _ _ e, i1 _ _ _ _ e, i1 _ _ _ _ e, i1 _ _ _ _ e]; rfl
  refine r_seq (r_set h1 fun R hR => r_opR ((hR.e (i := 4) (d := .lst l4) rfl) _ _ (r_de (r_lst (r_cons (r_exv (vp hR rfl) fun x4 d4 => r_cons (r_exv0 fun x5 => r_cons (r_exv0 fun x6 => r_cons (r_exv (vp hR rfl) fun x7 d7 => r_nil (r_szd (by show 4 ≤ sizeLine; omega) (r_ret (r_eq (add_lst (by rw [e4]; show 4 + 4 ≤ sizeLine; omega)) (r_setP h1 rfl (by decide) (fun e => ?_) fun ρ2 h2 => r_nx ?_)))))))))))))
  · show imms (l4 ++ _) = true
    refine imms_app (im4 e) ?_
    show (imm _ && (imm _ && (imm _ && (imm _ && true)))) = true
    rw [i1 _ _ _ _ e, i1 _ _ _ _ e]; rfl
  obtain ⟨l8, e8⟩ : ∃ l8 : List D, l8 = l4 ++ [.erv x4 "Refused" (some d4) [("at", p)], .erv x5 "InvalidCommand" none [], .erv x6 "NoWorld" none [], .erv x7 "NoName" (some d7) [("name", p)]] := ⟨_, rfl⟩
  rw [← e8] at h2
  have m8 : Made8 p l8 := ⟨x0, d0, x1, d1, x2, d2, x3, d3, x4, d4, x5, x6, x7, d7, by rw [e8, e4]; rfl⟩
  rw [e4] at e8
  replace h2 : EK 9 ρ2 ((3, b, sd) :: (4, false, .lst l8) :: (2, false, .int (0 + (k : Int))) :: KW ns) := h2.pick (by unfold KW; walk_at "pk")
  have v4 : ∀ {R : Ro} {l : List (Nat × D)}, RK 9 R l → l.lookup 4 = some (.lst l8) → Ev (mVar 4 R) (.lst [.erv x0 "InvalidPlan" (some d0) [("word", p)], .erv x1 "InvalidText" (some d1) [("at", p)], .erv x2 "InvalidWorld" (some d2) [("at", p)], .erv x3 "InvalidLooks" (some d3) [("at", p)], .erv x4 "Refused" (some d4) [("at", p)], .erv x5 "InvalidCommand" none [], .erv x6 "NoWorld" none [], .erv x7 "NoName" (some d7) [("name", p)]]) := fun hR e => by
    have := hR.e (i := 4) e
    rw [e8] at this
    exact this
  refine r_seq (r_set h2 fun R hR => (e_lst (e_cons (e_xe (e_op (v4 hR rfl) (e_c (.int 0)) rfl) (by decide +kernel) rfl) (e_cons (e_xe (e_op (v4 hR rfl) (e_c (.int 1)) rfl) (by decide +kernel) rfl) (e_cons (e_xe (e_op (v4 hR rfl) (e_c (.int 2)) rfl) (by decide +kernel) rfl) (e_cons (e_xe (e_op (v4 hR rfl) (e_c (.int 3)) rfl) (by decide +kernel) rfl) (e_cons (e_xe (e_op (v4 hR rfl) (e_c (.int 4)) rfl) (by decide +kernel) rfl) (e_cons (e_xe (e_op (v4 hR rfl) (e_c (.int 7)) rfl) (by decide +kernel) rfl) e_nil)))))) (by show 6 ≤ sizeLine; omega)) _ _ (r_setP (r := .lst [p, p, p, p, p, p]) h2 rfl (by decide) (fun e => ?_) fun ρ3 h3 => r_nx ?_))
  · show (imm p && (imm p && (imm p && (imm p && (imm p && (imm p && true)))))) = true
    rw [hb e]; rfl
  replace h3 : EK 9 ρ3 ((3, b, sd) :: (5, false, .lst [p, p, p, p, p, p]) :: (4, false, .lst l8) :: (2, false, .int (0 + (k : Int))) :: KW ns) := h3.pick (by unfold KW; walk_at "pk")
  refine r_seq (r_set h3 fun R hR => (e_opR (hR.e (i := 5) (d := .lst [p, p, p, p, p, p]) rfl) (e_de (v_lst (e_cons (e_xeK (e_cons (vp hR rfl) e_nil) (by decide +kernel)) (e_cons (e_xeK (e_cons (vp hR rfl) e_nil) (by decide +kernel)) (e_cons (e_xeK (e_cons (vp hR rfl) e_nil) (by decide +kernel)) e_nil))) (by show 3 ≤ sizeLine; omega))) (add_lst (by show 6 + 3 ≤ sizeLine; omega))) _ _ (r_setP (r := .lst ([p, p, p, p, p, p] ++ [p, p, p])) h3 rfl (by decide) (fun e => ?_) fun ρ4 h4 => r_nx ?_))
  · show (imm p && (imm p && (imm p && (imm p && (imm p && (imm p && (imm p && (imm p && (imm p && true))))))))) = true
    rw [hb e]; rfl
  exact q ρ4 l8 ([p, p, p, p, p, p] ++ [p, p, p]) m8 (fun y hy => by simpa using hy) (by show 9 ≤ 9; decide) (h4.pick (by unfold K3 KW; walk_at "pk"))
end
theorem plain_of {n : Nat} {d : D} (h : NV n d) : ptrD d = d ∧ valD d = d ∧ ∀ x, d ≠ .raw x := by
  obtain ⟨⟨p, e, _⟩, _⟩ := h
  cases d <;> first | (simp [D.py] at e; done) | exact ⟨rfl, rfl, fun x c => (by cases c)⟩
theorem turn_run {ns : List Int} {k : Nat} {ρ : En} {Q : Fl × En → Prop} {E : Ex × En → Prop} (h : EK 9 ρ ((2, false, .int (0 + (k : Int))) :: KW ns)) (q : ∀ ρ', EK 9 ρ' (KW ns) → Q (.nx, ρ')) : kw1B ρ Q E := by
  have z := sizeLine_ge
  refine r_seq (r_set h fun R hR => r_call (e_cons (hR.e (i := 1) rfl) (e_cons (e_c (.int 7)) e_nil) _ _ (r_callif rfl (any8 (by decide) _ _ fun b d hd => q_setF h rfl (by decide) fun ρ1 h1 => r_nx ?_))))
  replace h1 : EK 9 ρ1 (K3 ns k false d) := h1.pick (by unfold K3 KW; walk_at "pk")
  obtain ⟨pd, vd, nr⟩ := plain_of hd
  have cl : ∀ {p : D} {l8 ms : List D} {b : Bool} {sd : D} {ρ' : En}, Made8 p l8 → EK 9 ρ' ((5, false, .lst ms) :: (4, false, .lst l8) :: K3 ns k b sd) → kw1B8 ρ' Q E := fun m8 h' => classes_run m8 (h'.pick (by unfold KF K3 KW; walk_at "pk")) fun ρ2 h2 => q ρ2 (h2.pick (by unfold KF KW; walk_at "pk"))
  refine r_seq (r_celS h1 fun R hR => r_ifE (e_turn hR rfl _ _ ?_))
  cases ek : (k == 0) with
  | true =>
    refine r_t ((e_lst (e_cons (hR.e (i := 3) (d := d) rfl) e_nil) (by show 1 ≤ sizeLine; omega)) _ _ (cel_true h1 rfl (by decide) fun x ρ2 h2 => r_nx ?_))
    replace h2 : EK 9 ρ2 (K3 ns k true (.cel x [d])) := h2.pick (by unfold K3 KW; walk_at "pk")
    refine errors_run (b := true) (fun _ => rfl) h2 fun ρ3 l8 ms m8 hms hl h3 => ?_
    refine r_seq (t_ifB (b := true) h3 (fun R hR => ek ▸ e_turn hR rfl) (fun _ => ?_) fun c => nomatch c)
    refine r_appC h3 (i := 3) (x := x) (ds := [d]) rfl (by decide) (fun R hR => e_c (.str "late")) rfl (by show 1 < sizeLine; omega) fun ρ4 h4 => r_nx ?_
    replace h4 : EK 9 ρ4 ((5, false, .lst ms) :: (4, false, .lst l8) :: K3 ns k true (.cel x ([d] ++ [.str "late"]))) := h4.pick (by unfold K3 KW; walk_at "pk")
    have hv : HasRepr (.lst ([d] ++ [.str "late"])) := (nv_lst (n := 8) (fun y hy => by
      simp only [List.cons_append, List.nil_append, List.mem_cons, List.not_mem_nil, or_false] at hy
      rcases hy with rfl | rfl
      · exact hd
      · exact (nv_str "late" (by decide +kernel) (by decide +kernel) (by decide +kernel) (by decide +kernel) (by decide +kernel)).mono (by decide)) (by show 2 ≤ 3; decide) (by decide)).2
    refine r_seq (texts_run hms hl hv (fun R l hR e3 => ⟨fun e7 => e_aliP hR e7 e3, ?_⟩) h4 (r_nx (cl m8 h4)))
    exact e_aliS hR e3 ⟨fun c => (by cases c), fun x c => (by cases c)⟩
  | false =>
    refine r_f ((e_dr (hR.e (i := 3) (d := d) rfl)) _ _ (cel_false h1 rfl (by decide) fun ρ2 h2 => r_nx ?_))
    replace h2 : EK 9 ρ2 (K3 ns k false d) := h2.pick (by unfold K3 KW; walk_at "pk")
    refine errors_run (b := false) (fun c => nomatch c) h2 fun ρ3 l8 ms m8 hms hl h3 => ?_
    refine r_seq (t_ifB (b := false) h3 (fun R hR => ek ▸ e_turn hR rfl) (fun c => nomatch c) fun _ => r_skip (r_nx ?_))
    rw [pd] at hms m8
    refine r_seq (texts_run hms hl hd.2 (fun R l hR e3 => ⟨fun e7 => ?_, ?_⟩) h3 (r_nx (cl m8 h3)))
    · have := e_aliS (j := 3) hR e7 ⟨nr 0, nr⟩
      rw [vd] at this
      exact this
    · have := e_aliS (j := 3) hR e3 ⟨nr 0, nr⟩
      rw [vd] at this
      exact this
theorem law_true (ns : List Int) (hl : ns.length ≤ 63) : sem_law [.scr ns] (fun r => r.2 = .bl true) fun _ => False := by
  rw [kw_sem]
  refine r_body (show 1 ≤ 9 by decide) fun ρ h => ?_
  replace h : EK 9 ρ [(0, false, .scr ns)] := h
  have dl : sem__law_deal [.scr ns] = W.ret (false, .box 0) := if_pos hl
  refine t_set h rfl (by decide) (fun R hR => e_call (e_cons (hR.e rfl) e_nil) rfl (.of dl)) fun ρ1 h1 => ?_
  replace h1 : EK 9 ρ1 (KW ns) := h1.pick (by unfold KW; walk_at "pk")
  refine r_seq (t_for (fun k : Nat => D.int (0 + (k : Int))) (List.range 8) (fun k => [(2, .int (0 + (k : Int)))]) h1 rfl (fun R hR => e_rng1 (k := 8) (e_cons (e_c _) e_nil) (by decide)) (fun _ _ => rfl) (fun _ _ => rfl) (fun k hk ρ' h' Q' hq => turn_run h' fun ρ2 h2 => (hq ρ2 h2).1) fun ρ2 h2 => r_nx ?_)
  exact t_ret (d := .bl true) h2 (fun R hR => v_dr (e_c _)) fun b => r_endR rfl
end FbL
end

end

section
set_option Elab.async false
set_option linter.all false
set_option maxRecDepth 100000
set_option maxHeartbeats 4000000
namespace FbL
open PySem PySem.Spec PyProof.Rows L2 Fb
def topS (i : Nat) : Stmt := PySem.Challenge.pw_firstbore_k01_errors_and_what_they_keep.main.body.getD i (.Pass ⟨0, 0, 0, 0⟩)
abbrev s__law_draw : Stmt := topS 12
abbrev s__law_pick : Stmt := topS 13
abbrev s__law_any : Stmt := topS 14
abbrev s__law_deal : Stmt := topS 11
abbrev s__law_sorts : Stmt := topS 15
abbrev s_law : Stmt := topS 16
abbrev s_InvalidLooks___init__ : Stmt := inClass (topS 5) 0
theorem sh_InvalidLooks : XShape s_InvalidLooks___init__ "at" "at" := ⟨⟨_, _, _, _, _, _, _, _, _, rfl, fun env => ⟨_, rfl⟩⟩, rfl, fun _ _ _ _ _ _ _ _ _ _ => rfl, by decide +kernel, rfl, rfl, rfl, rfl, rfl, rfl, rfl, by decide, by decide⟩
abbrev s_InvalidPlan___init__ : Stmt := inClass (topS 2) 0
theorem sh_InvalidPlan : XShape s_InvalidPlan___init__ "word" "word" := ⟨⟨_, _, _, _, _, _, _, _, _, rfl, fun env => ⟨_, rfl⟩⟩, rfl, fun _ _ _ _ _ _ _ _ _ _ => rfl, by decide +kernel, rfl, rfl, rfl, rfl, rfl, rfl, rfl, by decide, by decide⟩
abbrev s_InvalidText___init__ : Stmt := inClass (topS 3) 0
theorem sh_InvalidText : XShape s_InvalidText___init__ "at" "at" := ⟨⟨_, _, _, _, _, _, _, _, _, rfl, fun env => ⟨_, rfl⟩⟩, rfl, fun _ _ _ _ _ _ _ _ _ _ => rfl, by decide +kernel, rfl, rfl, rfl, rfl, rfl, rfl, rfl, by decide, by decide⟩
abbrev s_InvalidWorld___init__ : Stmt := inClass (topS 4) 0
theorem sh_InvalidWorld : XShape s_InvalidWorld___init__ "at" "at" := ⟨⟨_, _, _, _, _, _, _, _, _, rfl, fun env => ⟨_, rfl⟩⟩, rfl, fun _ _ _ _ _ _ _ _ _ _ => rfl, by decide +kernel, rfl, rfl, rfl, rfl, rfl, rfl, rfl, by decide, by decide⟩
abbrev s_NoName___init__ : Stmt := inClass (topS 9) 0
theorem sh_NoName : XShape s_NoName___init__ "name" "name" := ⟨⟨_, _, _, _, _, _, _, _, _, rfl, fun env => ⟨_, rfl⟩⟩, rfl, fun _ _ _ _ _ _ _ _ _ _ => rfl, by decide +kernel, rfl, rfl, rfl, rfl, rfl, rfl, rfl, by decide, by decide⟩
abbrev s_Refused___init__ : Stmt := inClass (topS 8) 0
theorem sh_Refused : XShape s_Refused___init__ "at" "at" := ⟨⟨_, _, _, _, _, _, _, _, _, rfl, fun env => ⟨_, rfl⟩⟩, rfl, fun _ _ _ _ _ _ _ _ _ _ => rfl, by decide +kernel, rfl, rfl, rfl, rfl, rfl, rfl, rfl, by decide, by decide⟩
structure Txt (P : Program) (G : Wd) (ts : List Tb) (C ed : Addr) : Prop where
  tabs : G.tabs = tabsOf ts
  b_KeyError : G.mg "KeyError" = none
  b_ValueError : G.mg "ValueError" = none
  b_abs : G.mg "abs" = none
  b_bool : G.mg "bool" = none
  b_enumerate : G.mg "enumerate" = none
  b_int : G.mg "int" = none
  b_isinstance : G.mg "isinstance" = none
  b_len : G.mg "len" = none
  b_list : G.mg "list" = none
  b_range : G.mg "range" = none
  b_repr : G.mg "repr" = none
  b_str : G.mg "str" = none
  b_super : G.mg "super" = none
  b_tuple : G.mg "tuple" = none
  f__law_pick : ∃ f fd, G.mg "_law_pick" = some (.ref f) ∧ Fun G.K "_law_pick" "_law_pick" s__law_pick f fd
  f__law_any : ∃ f fd, G.mg "_law_any" = some (.ref f) ∧ Fun G.K "_law_any" "_law_any" s__law_any f fd
  f__law_deal : ∃ f fd, G.mg "_law_deal" = some (.ref f) ∧ Fun G.K "_law_deal" "_law_deal" s__law_deal f fd
  f__law_sorts : ∃ f fd, G.mg "_law_sorts" = some (.ref f) ∧ Fun G.K "_law_sorts" "_law_sorts" s__law_sorts f fd
  f__law_draw : ∃ f fd, G.mg "_law_draw" = some (.ref f) ∧ Fun G.K "_law_draw" "_law_draw" s__law_draw f fd
  f_law : ∃ f fd, G.mg "law" = some (.ref f) ∧ Fun G.K "law" "law" s_law f fd
  x_InvalidCommand : Exc0 G "InvalidCommand"
  x_NoWorld : Exc0 G "NoWorld"
  y_InvalidLooks : Exc1 P G "InvalidLooks" "at" "at" s_InvalidLooks___init__
  y_InvalidPlan : Exc1 P G "InvalidPlan" "word" "word" s_InvalidPlan___init__
  y_InvalidText : Exc1 P G "InvalidText" "at" "at" s_InvalidText___init__
  y_InvalidWorld : Exc1 P G "InvalidWorld" "at" "at" s_InvalidWorld___init__
  y_NoName : ExcK P G "NoName" "name" "name" s_NoName___init__
  y_Refused : Exc1 P G "Refused" "at" "at" s_Refused___init__
  e_InvalidCommand : ∃ xC : Addr, G.mg "InvalidCommand" = some (.ref xC) ∧ XCat G "InvalidCommand" xC ∧ PySem.W.findIn G.K (.ref xC) "at" = some none ∧ (∀ m b, ti_InvalidCommand.lookup m = some b → ∃ D : Addr, G.mg m = some (.ref D) ∧ PySem.W.kitOne G.K (.ref xC) (.ref D) = some b)
  e_InvalidLooks : ∃ xC : Addr, G.mg "InvalidLooks" = some (.ref xC) ∧ XCat G "InvalidLooks" xC ∧ PySem.W.findIn G.K (.ref xC) "at" = some none ∧ (∀ m b, ti_InvalidLooks.lookup m = some b → ∃ D : Addr, G.mg m = some (.ref D) ∧ PySem.W.kitOne G.K (.ref xC) (.ref D) = some b)
  e_InvalidPlan : ∃ xC : Addr, G.mg "InvalidPlan" = some (.ref xC) ∧ XCat G "InvalidPlan" xC ∧ PySem.W.findIn G.K (.ref xC) "word" = some none ∧ (∀ m b, ti_InvalidPlan.lookup m = some b → ∃ D : Addr, G.mg m = some (.ref D) ∧ PySem.W.kitOne G.K (.ref xC) (.ref D) = some b)
  e_InvalidText : ∃ xC : Addr, G.mg "InvalidText" = some (.ref xC) ∧ XCat G "InvalidText" xC ∧ PySem.W.findIn G.K (.ref xC) "at" = some none ∧ (∀ m b, ti_InvalidText.lookup m = some b → ∃ D : Addr, G.mg m = some (.ref D) ∧ PySem.W.kitOne G.K (.ref xC) (.ref D) = some b)
  e_InvalidWorld : ∃ xC : Addr, G.mg "InvalidWorld" = some (.ref xC) ∧ XCat G "InvalidWorld" xC ∧ PySem.W.findIn G.K (.ref xC) "at" = some none ∧ (∀ m b, ti_InvalidWorld.lookup m = some b → ∃ D : Addr, G.mg m = some (.ref D) ∧ PySem.W.kitOne G.K (.ref xC) (.ref D) = some b)
  e_NoName : ∃ xC : Addr, G.mg "NoName" = some (.ref xC) ∧ XCat G "NoName" xC ∧ PySem.W.findIn G.K (.ref xC) "name" = some none ∧ (∀ m b, ti_NoName.lookup m = some b → ∃ D : Addr, G.mg m = some (.ref D) ∧ PySem.W.kitOne G.K (.ref xC) (.ref D) = some b)
  e_NoWorld : ∃ xC : Addr, G.mg "NoWorld" = some (.ref xC) ∧ XCat G "NoWorld" xC ∧ PySem.W.findIn G.K (.ref xC) "at" = some none ∧ (∀ m b, ti_NoWorld.lookup m = some b → ∃ D : Addr, G.mg m = some (.ref D) ∧ PySem.W.kitOne G.K (.ref xC) (.ref D) = some b)
  e_Refused : ∃ xC : Addr, G.mg "Refused" = some (.ref xC) ∧ XCat G "Refused" xC ∧ PySem.W.findIn G.K (.ref xC) "at" = some none ∧ (∀ m b, ti_Refused.lookup m = some b → ∃ D : Addr, G.mg m = some (.ref D) ∧ PySem.W.kitOne G.K (.ref xC) (.ref D) = some b)
  u_InvalidCommand : ∀ xC : Addr, G.mg "InvalidCommand" = some (.ref xC) → ∀ u b, tu_InvalidCommand.lookup u = some b → PySem.W.kitOne G.K (.ref xC) (.type u) = some b
  u_InvalidLooks : ∀ xC : Addr, G.mg "InvalidLooks" = some (.ref xC) → ∀ u b, tu_InvalidLooks.lookup u = some b → PySem.W.kitOne G.K (.ref xC) (.type u) = some b
  u_InvalidPlan : ∀ xC : Addr, G.mg "InvalidPlan" = some (.ref xC) → ∀ u b, tu_InvalidPlan.lookup u = some b → PySem.W.kitOne G.K (.ref xC) (.type u) = some b
  u_InvalidText : ∀ xC : Addr, G.mg "InvalidText" = some (.ref xC) → ∀ u b, tu_InvalidText.lookup u = some b → PySem.W.kitOne G.K (.ref xC) (.type u) = some b
  u_InvalidWorld : ∀ xC : Addr, G.mg "InvalidWorld" = some (.ref xC) → ∀ u b, tu_InvalidWorld.lookup u = some b → PySem.W.kitOne G.K (.ref xC) (.type u) = some b
  u_NoName : ∀ xC : Addr, G.mg "NoName" = some (.ref xC) → ∀ u b, tu_NoName.lookup u = some b → PySem.W.kitOne G.K (.ref xC) (.type u) = some b
  u_NoWorld : ∀ xC : Addr, G.mg "NoWorld" = some (.ref xC) → ∀ u b, tu_NoWorld.lookup u = some b → PySem.W.kitOne G.K (.ref xC) (.type u) = some b
  u_Refused : ∀ xC : Addr, G.mg "Refused" = some (.ref xC) → ∀ u b, tu_Refused.lookup u = some b → PySem.W.kitOne G.K (.ref xC) (.type u) = some b
  kc_BoreError : ∃ D : Addr, G.mg "BoreError" = some (.ref D)
  kc_InvalidCommand : ∃ D : Addr, G.mg "InvalidCommand" = some (.ref D)
  kc_InvalidLooks : ∃ D : Addr, G.mg "InvalidLooks" = some (.ref D)
  kc_InvalidPlan : ∃ D : Addr, G.mg "InvalidPlan" = some (.ref D)
  kc_InvalidText : ∃ D : Addr, G.mg "InvalidText" = some (.ref D)
  kc_InvalidWorld : ∃ D : Addr, G.mg "InvalidWorld" = some (.ref D)
  kc_NoName : ∃ D : Addr, G.mg "NoName" = some (.ref D)
  kc_NoWorld : ∃ D : Addr, G.mg "NoWorld" = some (.ref D)
  kc_Refused : ∃ D : Addr, G.mg "Refused" = some (.ref D)
section
variable {P : Program} {w : World} {G : Wd} {base : Heap} {ts : List Tb} {C ed : Addr}
theorem xe_at (T : Txt P G ts C ed) : ∀ c ∈ (["InvalidText", "InvalidWorld", "InvalidLooks", "Refused"] : List Str), ∃ C : Addr, G.mg c = some (.ref C) ∧ XCat G c C ∧ PySem.W.findIn G.K (.ref C) "at" = some none := fun c hc => by
  simp only [List.mem_cons, List.not_mem_nil, or_false] at hc
  rcases hc with rfl | rfl | rfl | rfl
  · obtain ⟨C, h1, h2, h3, _⟩ := T.e_InvalidText; exact ⟨C, h1, h2, h3⟩
  · obtain ⟨C, h1, h2, h3, _⟩ := T.e_InvalidWorld; exact ⟨C, h1, h2, h3⟩
  · obtain ⟨C, h1, h2, h3, _⟩ := T.e_InvalidLooks; exact ⟨C, h1, h2, h3⟩
  · obtain ⟨C, h1, h2, h3, _⟩ := T.e_Refused; exact ⟨C, h1, h2, h3⟩
theorem xe_name (T : Txt P G ts C ed) : ∀ c ∈ (["NoName"] : List Str), ∃ C : Addr, G.mg c = some (.ref C) ∧ XCat G c C ∧ PySem.W.findIn G.K (.ref C) "name" = some none := fun c hc => by
  simp only [List.mem_cons, List.not_mem_nil, or_false] at hc
  subst hc
  · obtain ⟨C, h1, h2, h3, _⟩ := T.e_NoName; exact ⟨C, h1, h2, h3⟩
theorem xe_word (T : Txt P G ts C ed) : ∀ c ∈ (["InvalidPlan"] : List Str), ∃ C : Addr, G.mg c = some (.ref C) ∧ XCat G c C ∧ PySem.W.findIn G.K (.ref C) "word" = some none := fun c hc => by
  simp only [List.mem_cons, List.not_mem_nil, or_false] at hc
  subst hc
  · obtain ⟨C, h1, h2, h3, _⟩ := T.e_InvalidPlan; exact ⟨C, h1, h2, h3⟩
theorem isvT (T : Txt P G ts C ed) : IsvT G isVM := (let ⟨C, h1, h2, _, h4⟩ := T.e_InvalidCommand; isv_cons h1 h2 h4 (T.u_InvalidCommand C h1) (let ⟨C, h1, h2, _, h4⟩ := T.e_InvalidLooks; isv_cons h1 h2 h4 (T.u_InvalidLooks C h1) (let ⟨C, h1, h2, _, h4⟩ := T.e_InvalidPlan; isv_cons h1 h2 h4 (T.u_InvalidPlan C h1) (let ⟨C, h1, h2, _, h4⟩ := T.e_InvalidText; isv_cons h1 h2 h4 (T.u_InvalidText C h1) (let ⟨C, h1, h2, _, h4⟩ := T.e_InvalidWorld; isv_cons h1 h2 h4 (T.u_InvalidWorld C h1) (let ⟨C, h1, h2, _, h4⟩ := T.e_NoName; isv_cons h1 h2 h4 (T.u_NoName C h1) (let ⟨C, h1, h2, _, h4⟩ := T.e_NoWorld; isv_cons h1 h2 h4 (T.u_NoWorld C h1) (let ⟨C, h1, h2, _, h4⟩ := T.e_Refused; isv_cons h1 h2 h4 (T.u_Refused C h1) isv_nil))))))))
abbrev N__law_draw : List Str := ["_law_deal_here", "_law_many", "_law_rest"]
theorem sc__law_draw : FnScope N__law_draw ["_law_deal_here", "_law_many"] (defScope s__law_draw) := ⟨rfl, rfl, rfl, by decide +kernel, rfl, by decide +kernel, by decide +kernel⟩
theorem ok__law_draw (T : Txt P G ts C ed) (B : TbAll G base ts) : FnK P w G base 1 "_law_draw" ["_law_deal_here", "_law_many"] sem__law_draw := by
  obtain ⟨f, fd, hm, F⟩ := T.f__law_draw
  have nd := sc__law_draw.nd
  refine ⟨f, fd, hm, F.kp, F.binds (fun _ _ _ _ _ _ us hl => match us, hl with | [_, _], _ => rfl), fnd_draw F sc__law_draw fun cdv A outer s H E Z => ?_⟩
  exact pss_cons (ps_while (passes_of rfl) (DT.pt (DW.dt (dw_and (dt_cmp (op_neD Z.hu64) (dop_ne Z.K) (de_ix (ix_all Z.K Z.hu1) dop_ix (dv 0) de_int (fun _ _ => rfl)) (dde (dr_lst da_nil)) (nomark _)) (dw_and1 (dt_cmp (op_eqD Z.hu64) (dop_eq Z.K) (de_ix (ix_all Z.K Z.hu1) dop_ix (de_ix (ix_all Z.K Z.hu1) dop_ix (dv 0) de_int (fun _ _ => rfl)) (de_neg de_int) (fun _ _ => rfl)) de_int (nomark _))))))
      (pss_one (ps_expr (pe_bm0 PySem.F.plainAttrs_list PySem.F.slot_list_pop PySem.F.type_list_pop mt_pop (pe_ix ix_list (pv 0) pe_int (fun _ _ => rfl))))))
    (pss_cons (ps_if (DT.pt (dt_cmp (op_neD Z.hu64) (dop_ne Z.K) (de_ix (ix_all Z.K Z.hu1) dop_ix (dv 0) de_int (fun _ _ => rfl)) (dde (dr_lst da_nil)) (nomark _)))
      (pss_cons (ps_set nd rfl (by first | exact .inl rfl | exact .inr rfl) (pe_bm0 PySem.F.plainAttrs_list PySem.F.slot_list_pop PySem.F.type_list_pop mt_pop (pe_ix ix_list (pv 0) pe_int (fun _ _ => rfl))))
        (pss_cons (ps_expr (pe_bm PySem.F.plainAttrs_list PySem.F.slot_list_append PySem.F.type_list_append mt_append (pe_ix ix_list (pv 0) pe_int (fun _ _ => rfl)) (pa_cons (DE.pe (de_op op_fdivW dop_fdivW (dv 2) (dv 1))) pa_nil)))
          (pss_one (ps_ret (DR.pe (ddr (de_op op_mod dop_mod (dde (dr_callTy (g1_mono _) (bl_int) T.b_int Z.mg (by decide +kernel) (by rfl) (da_cons (dv 2) da_nil))) (dv 1)))))))) pss_nil)
    (pss_cons (ps_asg (DE.pe (de_op op_mod dop_mod (dde (dr_callTy (g1_mono _) (bl_int) T.b_int Z.mg (by decide +kernel) (by rfl) (da_cons (dde (dr_op op_addAll (dop_add Z.K) (de_op op_mul dop_mul (de_ix (ix_all Z.K Z.hu1) dop_ix (dv 0) de_int (fun _ _ => rfl)) de_int) de_int)) da_nil))) de_int)) (pg_sub (pv 0) pe_int set_list))
      (pss_one (ps_ret (DR.pe (ddr (de_op op_mod dop_mod (dde (dr_callTy (g1_mono _) (bl_int) T.b_int Z.mg (by decide +kernel) (by rfl) (da_cons (de_op op_fdiv dop_fdiv (de_ix (ix_all Z.K Z.hu1) dop_ix (dv 0) de_int (fun _ _ => rfl)) de_int) da_nil))) (dv 1))))))))

abbrev N__law_pick : List Str := ["_law_deal_here", "_law_some"]
theorem sc__law_pick : FnScope N__law_pick ["_law_deal_here", "_law_some"] (defScope s__law_pick) := ⟨rfl, rfl, rfl, by decide +kernel, rfl, by decide +kernel, by decide +kernel⟩
theorem ok__law_pick (T : Txt P G ts C ed) (B : TbAll G base ts) : FnK P w G base 2 "_law_pick" ["_law_deal_here", "_law_some"] sem__law_pick := by
  obtain ⟨f, fd, hm, F⟩ := T.f__law_pick
  have nd := sc__law_pick.nd
  exact ⟨f, fd, hm, F.kp, F.binds (fun _ _ _ _ _ _ us hl => match us, hl with | [_, _], _ => rfl), fnd_ok F sc__law_pick (by decide) fun cdv A outer s H E Z =>
    (dss_one (ds_ret (ddr (de_ix (ix_all Z.K Z.hu1) dop_ix (dv 1) (dde (dr_f Z (ok__law_draw T B) (by decide) (by rfl) (da_cons (dv 0) (da_cons (dde (dr_callB (g1_mono _) (bl_len Z.K) T.b_len Z.mg (by decide +kernel) (by rfl) (da_cons (dv 1) da_nil))) da_nil)))) (fun _ _ => rfl)))))⟩
abbrev N__law_any : List Str := ["_law_deal_here", "_law_deep", "_law_form", "_law_some", "_law_k"]
theorem sc__law_any : FnScope N__law_any ["_law_deal_here", "_law_deep"] (defScope s__law_any) := ⟨rfl, rfl, rfl, by decide +kernel, rfl, by decide +kernel, by decide +kernel⟩
theorem ok__law_any_0 (T : Txt P G ts C ed) (B : TbAll G base ts) : FnK P w G base 3 "_law_any" ["_law_deal_here", "_law_deep"] sem__law_any_0 := by
  obtain ⟨f, fd, hm, F⟩ := T.f__law_any
  have nd := sc__law_any.nd
  exact ⟨f, fd, hm, F.kp, F.binds (fun _ _ _ _ _ _ us hl => match us, hl with | [_, _], _ => rfl), fnd_fail⟩
theorem ok__law_any_1 (T : Txt P G ts C ed) (B : TbAll G base ts) : FnK P w G base 4 "_law_any" ["_law_deal_here", "_law_deep"] sem__law_any_1 := by
  obtain ⟨f, fd, hm, F⟩ := T.f__law_any
  have nd := sc__law_any.nd
  exact ⟨f, fd, hm, F.kp, F.binds (fun _ _ _ _ _ _ us hl => match us, hl with | [_, _], _ => rfl), fnd_ok F sc__law_any (by decide) fun cdv A outer s H E Z =>
    (dss_cons (ds_set [0] (dr_f Z (ok__law_draw T B) (by decide) (by rfl) (da_cons (dv 0) (da_cons de_int da_nil))) nd rfl (by first | exact .inl rfl | exact .inr rfl)) (dss_cons (ds_if (DW.dt (dw_and (dt_cmp op_gt dop_gt (dv 1) de_int (nomark _)) (dw_and1 (dt_cmp op_lt dop_lt (dv 2) de_int (nomark _))))) (dss_cons (ds_setLc (own := [("_law_k", 4)]) (i := 3) [0, 1] rfl rfl (sw_true rfl rfl rfl (by decide +kernel)) rfl nd (di_rng1 Z.mg (by rfl) T.b_range (da_cons (dde (dr_f Z (ok__law_draw T B) (by decide) (by rfl) (da_cons (dv 0) (da_cons de_int da_nil)))) da_nil)) (blkOk_by (N := N__law_any) (sc := defScope s__law_any) (by decide +kernel)) (fun s H C cl fp => (dg_name (by exact nd) (by rfl) (by first | exact .inl rfl | exact .inr rfl))) (by decide) (fun s H C cl fp => dts_nil) (fun s H C cl fp => (dde (dr_f (Z.blk _ _ _ _ _) (ok__law_any_0 T B) (by decide) (by rfl) (da_cons (dv 0) (da_cons (de_op op_sub dop_sub (dv 1) de_int) da_nil)))))) (dss_one (ds_ret (dr_if (dt_cmp op_lt dop_lt (dv 2) de_int (nomark _)) (dr_callTy (gTuple_mono) (bl_tuple Z.K) T.b_tuple Z.mg (by decide +kernel) (by rfl) (da_cons (dv 3) da_nil)) (ddr (dv 3)))))) dss_nil) (dss_cons (ds_if (dt_cmp op_lt dop_lt (dv 2) de_int (nomark _)) (dss_one (ds_ret (dr_f Z (ok__law_pick T B) (by decide) (by rfl) (da_cons (dv 0) (da_cons (dde (dr_lst (da_cons de_int (da_cons de_int (da_cons (de_neg de_int) (da_cons de_int (da_cons (de_op op_pow dop_pow de_int de_int) (da_cons de_bl (da_cons de_bl (da_cons de_non da_nil)))))))))) da_nil))))) dss_nil) (dss_one (ds_ret (dr_f Z (ok__law_pick T B) (by decide) (by rfl) (da_cons (dv 0) (da_cons (dde (dr_lst (da_cons de_str (da_cons de_str (da_cons de_str (da_cons de_str (da_cons de_str (da_cons de_str (da_cons de_str (da_cons (de_tup (da_cons de_int (da_cons de_int da_nil))) (da_cons (de_tup (da_cons de_int (da_cons de_int da_nil))) da_nil))))))))))) da_nil))))))))⟩
theorem ok__law_any_2 (T : Txt P G ts C ed) (B : TbAll G base ts) : FnK P w G base 5 "_law_any" ["_law_deal_here", "_law_deep"] sem__law_any_2 := by
  obtain ⟨f, fd, hm, F⟩ := T.f__law_any
  have nd := sc__law_any.nd
  exact ⟨f, fd, hm, F.kp, F.binds (fun _ _ _ _ _ _ us hl => match us, hl with | [_, _], _ => rfl), fnd_ok F sc__law_any (by decide) fun cdv A outer s H E Z =>
    (dss_cons (ds_set [0] (dr_f Z (ok__law_draw T B) (by decide) (by rfl) (da_cons (dv 0) (da_cons de_int da_nil))) nd rfl (by first | exact .inl rfl | exact .inr rfl)) (dss_cons (ds_if (DW.dt (dw_and (dt_cmp op_gt dop_gt (dv 1) de_int (nomark _)) (dw_and1 (dt_cmp op_lt dop_lt (dv 2) de_int (nomark _))))) (dss_cons (ds_setLc (own := [("_law_k", 4)]) (i := 3) [0, 1] rfl rfl (sw_true rfl rfl rfl (by decide +kernel)) rfl nd (di_rng1 Z.mg (by rfl) T.b_range (da_cons (dde (dr_f Z (ok__law_draw T B) (by decide) (by rfl) (da_cons (dv 0) (da_cons de_int da_nil)))) da_nil)) (blkOk_by (N := N__law_any) (sc := defScope s__law_any) (by decide +kernel)) (fun s H C cl fp => (dg_name (by exact nd) (by rfl) (by first | exact .inl rfl | exact .inr rfl))) (by decide) (fun s H C cl fp => dts_nil) (fun s H C cl fp => (dde (dr_f (Z.blk _ _ _ _ _) (ok__law_any_1 T B) (by decide) (by rfl) (da_cons (dv 0) (da_cons (de_op op_sub dop_sub (dv 1) de_int) da_nil)))))) (dss_one (ds_ret (dr_if (dt_cmp op_lt dop_lt (dv 2) de_int (nomark _)) (dr_callTy (gTuple_mono) (bl_tuple Z.K) T.b_tuple Z.mg (by decide +kernel) (by rfl) (da_cons (dv 3) da_nil)) (ddr (dv 3)))))) dss_nil) (dss_cons (ds_if (dt_cmp op_lt dop_lt (dv 2) de_int (nomark _)) (dss_one (ds_ret (dr_f Z (ok__law_pick T B) (by decide) (by rfl) (da_cons (dv 0) (da_cons (dde (dr_lst (da_cons de_int (da_cons de_int (da_cons (de_neg de_int) (da_cons de_int (da_cons (de_op op_pow dop_pow de_int de_int) (da_cons de_bl (da_cons de_bl (da_cons de_non da_nil)))))))))) da_nil))))) dss_nil) (dss_one (ds_ret (dr_f Z (ok__law_pick T B) (by decide) (by rfl) (da_cons (dv 0) (da_cons (dde (dr_lst (da_cons de_str (da_cons de_str (da_cons de_str (da_cons de_str (da_cons de_str (da_cons de_str (da_cons de_str (da_cons (de_tup (da_cons de_int (da_cons de_int da_nil))) (da_cons (de_tup (da_cons de_int (da_cons de_int da_nil))) da_nil))))))))))) da_nil))))))))⟩
theorem ok__law_any_3 (T : Txt P G ts C ed) (B : TbAll G base ts) : FnK P w G base 6 "_law_any" ["_law_deal_here", "_law_deep"] sem__law_any_3 := by
  obtain ⟨f, fd, hm, F⟩ := T.f__law_any
  have nd := sc__law_any.nd
  exact ⟨f, fd, hm, F.kp, F.binds (fun _ _ _ _ _ _ us hl => match us, hl with | [_, _], _ => rfl), fnd_ok F sc__law_any (by decide) fun cdv A outer s H E Z =>
    (dss_cons (ds_set [0] (dr_f Z (ok__law_draw T B) (by decide) (by rfl) (da_cons (dv 0) (da_cons de_int da_nil))) nd rfl (by first | exact .inl rfl | exact .inr rfl)) (dss_cons (ds_if (DW.dt (dw_and (dt_cmp op_gt dop_gt (dv 1) de_int (nomark _)) (dw_and1 (dt_cmp op_lt dop_lt (dv 2) de_int (nomark _))))) (dss_cons (ds_setLc (own := [("_law_k", 4)]) (i := 3) [0, 1] rfl rfl (sw_true rfl rfl rfl (by decide +kernel)) rfl nd (di_rng1 Z.mg (by rfl) T.b_range (da_cons (dde (dr_f Z (ok__law_draw T B) (by decide) (by rfl) (da_cons (dv 0) (da_cons de_int da_nil)))) da_nil)) (blkOk_by (N := N__law_any) (sc := defScope s__law_any) (by decide +kernel)) (fun s H C cl fp => (dg_name (by exact nd) (by rfl) (by first | exact .inl rfl | exact .inr rfl))) (by decide) (fun s H C cl fp => dts_nil) (fun s H C cl fp => (dde (dr_f (Z.blk _ _ _ _ _) (ok__law_any_2 T B) (by decide) (by rfl) (da_cons (dv 0) (da_cons (de_op op_sub dop_sub (dv 1) de_int) da_nil)))))) (dss_one (ds_ret (dr_if (dt_cmp op_lt dop_lt (dv 2) de_int (nomark _)) (dr_callTy (gTuple_mono) (bl_tuple Z.K) T.b_tuple Z.mg (by decide +kernel) (by rfl) (da_cons (dv 3) da_nil)) (ddr (dv 3)))))) dss_nil) (dss_cons (ds_if (dt_cmp op_lt dop_lt (dv 2) de_int (nomark _)) (dss_one (ds_ret (dr_f Z (ok__law_pick T B) (by decide) (by rfl) (da_cons (dv 0) (da_cons (dde (dr_lst (da_cons de_int (da_cons de_int (da_cons (de_neg de_int) (da_cons de_int (da_cons (de_op op_pow dop_pow de_int de_int) (da_cons de_bl (da_cons de_bl (da_cons de_non da_nil)))))))))) da_nil))))) dss_nil) (dss_one (ds_ret (dr_f Z (ok__law_pick T B) (by decide) (by rfl) (da_cons (dv 0) (da_cons (dde (dr_lst (da_cons de_str (da_cons de_str (da_cons de_str (da_cons de_str (da_cons de_str (da_cons de_str (da_cons de_str (da_cons (de_tup (da_cons de_int (da_cons de_int da_nil))) (da_cons (de_tup (da_cons de_int (da_cons de_int da_nil))) da_nil))))))))))) da_nil))))))))⟩
theorem ok__law_any_4 (T : Txt P G ts C ed) (B : TbAll G base ts) : FnK P w G base 7 "_law_any" ["_law_deal_here", "_law_deep"] sem__law_any_4 := by
  obtain ⟨f, fd, hm, F⟩ := T.f__law_any
  have nd := sc__law_any.nd
  exact ⟨f, fd, hm, F.kp, F.binds (fun _ _ _ _ _ _ us hl => match us, hl with | [_, _], _ => rfl), fnd_ok F sc__law_any (by decide) fun cdv A outer s H E Z =>
    (dss_cons (ds_set [0] (dr_f Z (ok__law_draw T B) (by decide) (by rfl) (da_cons (dv 0) (da_cons de_int da_nil))) nd rfl (by first | exact .inl rfl | exact .inr rfl)) (dss_cons (ds_if (DW.dt (dw_and (dt_cmp op_gt dop_gt (dv 1) de_int (nomark _)) (dw_and1 (dt_cmp op_lt dop_lt (dv 2) de_int (nomark _))))) (dss_cons (ds_setLc (own := [("_law_k", 4)]) (i := 3) [0, 1] rfl rfl (sw_true rfl rfl rfl (by decide +kernel)) rfl nd (di_rng1 Z.mg (by rfl) T.b_range (da_cons (dde (dr_f Z (ok__law_draw T B) (by decide) (by rfl) (da_cons (dv 0) (da_cons de_int da_nil)))) da_nil)) (blkOk_by (N := N__law_any) (sc := defScope s__law_any) (by decide +kernel)) (fun s H C cl fp => (dg_name (by exact nd) (by rfl) (by first | exact .inl rfl | exact .inr rfl))) (by decide) (fun s H C cl fp => dts_nil) (fun s H C cl fp => (dde (dr_f (Z.blk _ _ _ _ _) (ok__law_any_3 T B) (by decide) (by rfl) (da_cons (dv 0) (da_cons (de_op op_sub dop_sub (dv 1) de_int) da_nil)))))) (dss_one (ds_ret (dr_if (dt_cmp op_lt dop_lt (dv 2) de_int (nomark _)) (dr_callTy (gTuple_mono) (bl_tuple Z.K) T.b_tuple Z.mg (by decide +kernel) (by rfl) (da_cons (dv 3) da_nil)) (ddr (dv 3)))))) dss_nil) (dss_cons (ds_if (dt_cmp op_lt dop_lt (dv 2) de_int (nomark _)) (dss_one (ds_ret (dr_f Z (ok__law_pick T B) (by decide) (by rfl) (da_cons (dv 0) (da_cons (dde (dr_lst (da_cons de_int (da_cons de_int (da_cons (de_neg de_int) (da_cons de_int (da_cons (de_op op_pow dop_pow de_int de_int) (da_cons de_bl (da_cons de_bl (da_cons de_non da_nil)))))))))) da_nil))))) dss_nil) (dss_one (ds_ret (dr_f Z (ok__law_pick T B) (by decide) (by rfl) (da_cons (dv 0) (da_cons (dde (dr_lst (da_cons de_str (da_cons de_str (da_cons de_str (da_cons de_str (da_cons de_str (da_cons de_str (da_cons de_str (da_cons (de_tup (da_cons de_int (da_cons de_int da_nil))) (da_cons (de_tup (da_cons de_int (da_cons de_int da_nil))) da_nil))))))))))) da_nil))))))))⟩
theorem ok__law_any_5 (T : Txt P G ts C ed) (B : TbAll G base ts) : FnK P w G base 8 "_law_any" ["_law_deal_here", "_law_deep"] sem__law_any_5 := by
  obtain ⟨f, fd, hm, F⟩ := T.f__law_any
  have nd := sc__law_any.nd
  exact ⟨f, fd, hm, F.kp, F.binds (fun _ _ _ _ _ _ us hl => match us, hl with | [_, _], _ => rfl), fnd_ok F sc__law_any (by decide) fun cdv A outer s H E Z =>
    (dss_cons (ds_set [0] (dr_f Z (ok__law_draw T B) (by decide) (by rfl) (da_cons (dv 0) (da_cons de_int da_nil))) nd rfl (by first | exact .inl rfl | exact .inr rfl)) (dss_cons (ds_if (DW.dt (dw_and (dt_cmp op_gt dop_gt (dv 1) de_int (nomark _)) (dw_and1 (dt_cmp op_lt dop_lt (dv 2) de_int (nomark _))))) (dss_cons (ds_setLc (own := [("_law_k", 4)]) (i := 3) [0, 1] rfl rfl (sw_true rfl rfl rfl (by decide +kernel)) rfl nd (di_rng1 Z.mg (by rfl) T.b_range (da_cons (dde (dr_f Z (ok__law_draw T B) (by decide) (by rfl) (da_cons (dv 0) (da_cons de_int da_nil)))) da_nil)) (blkOk_by (N := N__law_any) (sc := defScope s__law_any) (by decide +kernel)) (fun s H C cl fp => (dg_name (by exact nd) (by rfl) (by first | exact .inl rfl | exact .inr rfl))) (by decide) (fun s H C cl fp => dts_nil) (fun s H C cl fp => (dde (dr_f (Z.blk _ _ _ _ _) (ok__law_any_4 T B) (by decide) (by rfl) (da_cons (dv 0) (da_cons (de_op op_sub dop_sub (dv 1) de_int) da_nil)))))) (dss_one (ds_ret (dr_if (dt_cmp op_lt dop_lt (dv 2) de_int (nomark _)) (dr_callTy (gTuple_mono) (bl_tuple Z.K) T.b_tuple Z.mg (by decide +kernel) (by rfl) (da_cons (dv 3) da_nil)) (ddr (dv 3)))))) dss_nil) (dss_cons (ds_if (dt_cmp op_lt dop_lt (dv 2) de_int (nomark _)) (dss_one (ds_ret (dr_f Z (ok__law_pick T B) (by decide) (by rfl) (da_cons (dv 0) (da_cons (dde (dr_lst (da_cons de_int (da_cons de_int (da_cons (de_neg de_int) (da_cons de_int (da_cons (de_op op_pow dop_pow de_int de_int) (da_cons de_bl (da_cons de_bl (da_cons de_non da_nil)))))))))) da_nil))))) dss_nil) (dss_one (ds_ret (dr_f Z (ok__law_pick T B) (by decide) (by rfl) (da_cons (dv 0) (da_cons (dde (dr_lst (da_cons de_str (da_cons de_str (da_cons de_str (da_cons de_str (da_cons de_str (da_cons de_str (da_cons de_str (da_cons (de_tup (da_cons de_int (da_cons de_int da_nil))) (da_cons (de_tup (da_cons de_int (da_cons de_int da_nil))) da_nil))))))))))) da_nil))))))))⟩
theorem ok__law_any_6 (T : Txt P G ts C ed) (B : TbAll G base ts) : FnK P w G base 9 "_law_any" ["_law_deal_here", "_law_deep"] sem__law_any_6 := by
  obtain ⟨f, fd, hm, F⟩ := T.f__law_any
  have nd := sc__law_any.nd
  exact ⟨f, fd, hm, F.kp, F.binds (fun _ _ _ _ _ _ us hl => match us, hl with | [_, _], _ => rfl), fnd_ok F sc__law_any (by decide) fun cdv A outer s H E Z =>
    (dss_cons (ds_set [0] (dr_f Z (ok__law_draw T B) (by decide) (by rfl) (da_cons (dv 0) (da_cons de_int da_nil))) nd rfl (by first | exact .inl rfl | exact .inr rfl)) (dss_cons (ds_if (DW.dt (dw_and (dt_cmp op_gt dop_gt (dv 1) de_int (nomark _)) (dw_and1 (dt_cmp op_lt dop_lt (dv 2) de_int (nomark _))))) (dss_cons (ds_setLc (own := [("_law_k", 4)]) (i := 3) [0, 1] rfl rfl (sw_true rfl rfl rfl (by decide +kernel)) rfl nd (di_rng1 Z.mg (by rfl) T.b_range (da_cons (dde (dr_f Z (ok__law_draw T B) (by decide) (by rfl) (da_cons (dv 0) (da_cons de_int da_nil)))) da_nil)) (blkOk_by (N := N__law_any) (sc := defScope s__law_any) (by decide +kernel)) (fun s H C cl fp => (dg_name (by exact nd) (by rfl) (by first | exact .inl rfl | exact .inr rfl))) (by decide) (fun s H C cl fp => dts_nil) (fun s H C cl fp => (dde (dr_f (Z.blk _ _ _ _ _) (ok__law_any_5 T B) (by decide) (by rfl) (da_cons (dv 0) (da_cons (de_op op_sub dop_sub (dv 1) de_int) da_nil)))))) (dss_one (ds_ret (dr_if (dt_cmp op_lt dop_lt (dv 2) de_int (nomark _)) (dr_callTy (gTuple_mono) (bl_tuple Z.K) T.b_tuple Z.mg (by decide +kernel) (by rfl) (da_cons (dv 3) da_nil)) (ddr (dv 3)))))) dss_nil) (dss_cons (ds_if (dt_cmp op_lt dop_lt (dv 2) de_int (nomark _)) (dss_one (ds_ret (dr_f Z (ok__law_pick T B) (by decide) (by rfl) (da_cons (dv 0) (da_cons (dde (dr_lst (da_cons de_int (da_cons de_int (da_cons (de_neg de_int) (da_cons de_int (da_cons (de_op op_pow dop_pow de_int de_int) (da_cons de_bl (da_cons de_bl (da_cons de_non da_nil)))))))))) da_nil))))) dss_nil) (dss_one (ds_ret (dr_f Z (ok__law_pick T B) (by decide) (by rfl) (da_cons (dv 0) (da_cons (dde (dr_lst (da_cons de_str (da_cons de_str (da_cons de_str (da_cons de_str (da_cons de_str (da_cons de_str (da_cons de_str (da_cons (de_tup (da_cons de_int (da_cons de_int da_nil))) (da_cons (de_tup (da_cons de_int (da_cons de_int da_nil))) da_nil))))))))))) da_nil))))))))⟩
theorem ok__law_any_7 (T : Txt P G ts C ed) (B : TbAll G base ts) : FnK P w G base 10 "_law_any" ["_law_deal_here", "_law_deep"] sem__law_any_7 := by
  obtain ⟨f, fd, hm, F⟩ := T.f__law_any
  have nd := sc__law_any.nd
  exact ⟨f, fd, hm, F.kp, F.binds (fun _ _ _ _ _ _ us hl => match us, hl with | [_, _], _ => rfl), fnd_ok F sc__law_any (by decide) fun cdv A outer s H E Z =>
    (dss_cons (ds_set [0] (dr_f Z (ok__law_draw T B) (by decide) (by rfl) (da_cons (dv 0) (da_cons de_int da_nil))) nd rfl (by first | exact .inl rfl | exact .inr rfl)) (dss_cons (ds_if (DW.dt (dw_and (dt_cmp op_gt dop_gt (dv 1) de_int (nomark _)) (dw_and1 (dt_cmp op_lt dop_lt (dv 2) de_int (nomark _))))) (dss_cons (ds_setLc (own := [("_law_k", 4)]) (i := 3) [0, 1] rfl rfl (sw_true rfl rfl rfl (by decide +kernel)) rfl nd (di_rng1 Z.mg (by rfl) T.b_range (da_cons (dde (dr_f Z (ok__law_draw T B) (by decide) (by rfl) (da_cons (dv 0) (da_cons de_int da_nil)))) da_nil)) (blkOk_by (N := N__law_any) (sc := defScope s__law_any) (by decide +kernel)) (fun s H C cl fp => (dg_name (by exact nd) (by rfl) (by first | exact .inl rfl | exact .inr rfl))) (by decide) (fun s H C cl fp => dts_nil) (fun s H C cl fp => (dde (dr_f (Z.blk _ _ _ _ _) (ok__law_any_6 T B) (by decide) (by rfl) (da_cons (dv 0) (da_cons (de_op op_sub dop_sub (dv 1) de_int) da_nil)))))) (dss_one (ds_ret (dr_if (dt_cmp op_lt dop_lt (dv 2) de_int (nomark _)) (dr_callTy (gTuple_mono) (bl_tuple Z.K) T.b_tuple Z.mg (by decide +kernel) (by rfl) (da_cons (dv 3) da_nil)) (ddr (dv 3)))))) dss_nil) (dss_cons (ds_if (dt_cmp op_lt dop_lt (dv 2) de_int (nomark _)) (dss_one (ds_ret (dr_f Z (ok__law_pick T B) (by decide) (by rfl) (da_cons (dv 0) (da_cons (dde (dr_lst (da_cons de_int (da_cons de_int (da_cons (de_neg de_int) (da_cons de_int (da_cons (de_op op_pow dop_pow de_int de_int) (da_cons de_bl (da_cons de_bl (da_cons de_non da_nil)))))))))) da_nil))))) dss_nil) (dss_one (ds_ret (dr_f Z (ok__law_pick T B) (by decide) (by rfl) (da_cons (dv 0) (da_cons (dde (dr_lst (da_cons de_str (da_cons de_str (da_cons de_str (da_cons de_str (da_cons de_str (da_cons de_str (da_cons de_str (da_cons (de_tup (da_cons de_int (da_cons de_int da_nil))) (da_cons (de_tup (da_cons de_int (da_cons de_int da_nil))) da_nil))))))))))) da_nil))))))))⟩
theorem ok__law_any_8 (T : Txt P G ts C ed) (B : TbAll G base ts) : FnK P w G base 11 "_law_any" ["_law_deal_here", "_law_deep"] sem__law_any_8 := by
  obtain ⟨f, fd, hm, F⟩ := T.f__law_any
  have nd := sc__law_any.nd
  exact ⟨f, fd, hm, F.kp, F.binds (fun _ _ _ _ _ _ us hl => match us, hl with | [_, _], _ => rfl), fnd_ok F sc__law_any (by decide) fun cdv A outer s H E Z =>
    (dss_cons (ds_set [0] (dr_f Z (ok__law_draw T B) (by decide) (by rfl) (da_cons (dv 0) (da_cons de_int da_nil))) nd rfl (by first | exact .inl rfl | exact .inr rfl)) (dss_cons (ds_if (DW.dt (dw_and (dt_cmp op_gt dop_gt (dv 1) de_int (nomark _)) (dw_and1 (dt_cmp op_lt dop_lt (dv 2) de_int (nomark _))))) (dss_cons (ds_setLc (own := [("_law_k", 4)]) (i := 3) [0, 1] rfl rfl (sw_true rfl rfl rfl (by decide +kernel)) rfl nd (di_rng1 Z.mg (by rfl) T.b_range (da_cons (dde (dr_f Z (ok__law_draw T B) (by decide) (by rfl) (da_cons (dv 0) (da_cons de_int da_nil)))) da_nil)) (blkOk_by (N := N__law_any) (sc := defScope s__law_any) (by decide +kernel)) (fun s H C cl fp => (dg_name (by exact nd) (by rfl) (by first | exact .inl rfl | exact .inr rfl))) (by decide) (fun s H C cl fp => dts_nil) (fun s H C cl fp => (dde (dr_f (Z.blk _ _ _ _ _) (ok__law_any_7 T B) (by decide) (by rfl) (da_cons (dv 0) (da_cons (de_op op_sub dop_sub (dv 1) de_int) da_nil)))))) (dss_one (ds_ret (dr_if (dt_cmp op_lt dop_lt (dv 2) de_int (nomark _)) (dr_callTy (gTuple_mono) (bl_tuple Z.K) T.b_tuple Z.mg (by decide +kernel) (by rfl) (da_cons (dv 3) da_nil)) (ddr (dv 3)))))) dss_nil) (dss_cons (ds_if (dt_cmp op_lt dop_lt (dv 2) de_int (nomark _)) (dss_one (ds_ret (dr_f Z (ok__law_pick T B) (by decide) (by rfl) (da_cons (dv 0) (da_cons (dde (dr_lst (da_cons de_int (da_cons de_int (da_cons (de_neg de_int) (da_cons de_int (da_cons (de_op op_pow dop_pow de_int de_int) (da_cons de_bl (da_cons de_bl (da_cons de_non da_nil)))))))))) da_nil))))) dss_nil) (dss_one (ds_ret (dr_f Z (ok__law_pick T B) (by decide) (by rfl) (da_cons (dv 0) (da_cons (dde (dr_lst (da_cons de_str (da_cons de_str (da_cons de_str (da_cons de_str (da_cons de_str (da_cons de_str (da_cons de_str (da_cons (de_tup (da_cons de_int (da_cons de_int da_nil))) (da_cons (de_tup (da_cons de_int (da_cons de_int da_nil))) da_nil))))))))))) da_nil))))))))⟩
theorem ok__law_any (T : Txt P G ts C ed) (B : TbAll G base ts) : FnK P w G base 11 "_law_any" ["_law_deal_here", "_law_deep"] sem__law_any := ok__law_any_8 T B
abbrev N__law_deal : List Str := ["_law_script", "_law_cells", "_law_mixed", "_law_cell"]
theorem sc__law_deal : FnScope N__law_deal ["_law_script"] (defScope s__law_deal) := ⟨rfl, rfl, rfl, by decide +kernel, rfl, by decide +kernel, by decide +kernel⟩
theorem ok__law_deal0 (T : Txt P G ts C ed) (B : TbAll G base ts) : FnK P w G base 1 "_law_deal" ["_law_script"] sem__law_deal0 := by
  obtain ⟨f, fd, hm, F⟩ := T.f__law_deal
  have nd := sc__law_deal.nd
  exact ⟨f, fd, hm, F.kp, F.binds (fun _ _ _ _ _ _ us hl => match us, hl with | [_], _ => rfl), fnd_ok F sc__law_deal (by decide) fun cdv A outer s H E Z =>
    (dss_cons (ds_par2 rfl nd rfl rfl (by decide) rfl rfl (dps_cons 1 [3, 0] (dr_lc (own := [("_law_cell", 3)]) rfl nd (di_walk (by exact Z.K) (dde (dr_slice Z.K (dv 0) do_none (do_some de_int)))) (blkOk_by (N := N__law_deal) (sc := defScope s__law_deal) (by decide +kernel)) (fun s H C cl fp => (dg_name (by exact nd) (by rfl) (by first | exact .inl rfl | exact .inr rfl))) (by decide) (fun s H C cl fp => dts_nil) (fun s H C cl fp => (dde (dr_callB (g1_mono _) (bl_abs) T.b_abs Z.mg (by decide +kernel) (by rfl) (da_cons (dv 3) da_nil))))) (dps_cons 2 [] (ddr de_int) dps_nil)) (by rfl)) (dss_cons (ds_for [1] (passes_of rfl) rfl (di_walk (by exact Z.K) (dv 1)) (dg_name (by exact nd) (by rfl) (by first | exact .inl rfl | exact .inr rfl)) (dss_one (ds_set [2, 3] (ddr (de_op op_mod dop_mod (dde (dr_callTy (g1_mono _) (bl_int) T.b_int Z.mg (by decide +kernel) (by rfl) (da_cons (dde (dr_op op_addAll (dop_add Z.K) (de_op op_mul dop_mul (dv 2) de_int) (de_op op_mod dop_mod (dde (dr_callTy (g1_mono _) (bl_int) T.b_int Z.mg (by decide +kernel) (by rfl) (da_cons (dv 3) da_nil))) de_int))) da_nil))) de_int)) nd rfl (by first | exact .inl rfl | exact .inr rfl)))) (dss_one (ds_ret (dr_lst (da_cons (dde (dr_rev (dde (dr_lc (own := [("_law_cell", 3)]) rfl nd (di_walk (by exact Z.K) (dv 1)) (blkOk_by (N := N__law_deal) (sc := defScope s__law_deal) (by decide +kernel)) (fun s H C cl fp => (dg_name (by exact nd) (by rfl) (by first | exact .inl rfl | exact .inr rfl))) (by decide) (fun s H C cl fp => (dts_one (dt_cmp op_ge dop_ge (dv 3) (de_op op_pow dop_pow de_int de_int) (nomark _)))) (fun s H C cl fp => (dv 3)))) (do_some (de_neg de_int)))) (da_cons (dv 2) da_nil)))))))⟩
theorem ok__law_deal (T : Txt P G ts C ed) (B : TbAll G base ts) : FnK P w G base 1 "_law_deal" ["_law_script"] sem__law_deal := box_of (ok__law_deal0 T B) deal_sem
abbrev N__law_sorts : List Str := ["_law_one", "_law_found"]
theorem sc__law_sorts : FnScope N__law_sorts ["_law_one"] (defScope s__law_sorts) := ⟨rfl, rfl, rfl, by decide +kernel, rfl, by decide +kernel, by decide +kernel⟩
theorem ok__law_sorts (T : Txt P G ts C ed) (B : TbAll G base ts) : FnK P w G base 1 "_law_sorts" ["_law_one"] sem__law_sorts := by
  obtain ⟨f, fd, hm, F⟩ := T.f__law_sorts
  have nd := sc__law_sorts.nd
  exact ⟨f, fd, hm, F.kp, F.binds (fun _ _ _ _ _ _ us hl => match us, hl with | [_], _ => rfl), fnd_ok F sc__law_sorts (by decide) fun cdv A outer s H E Z =>
    (dss_cons (ds_set [0] (dr_lst (da_cons (dde (dr_callB (g2_mono _) (bl_isV (isvT T) Z.K) T.b_isinstance Z.mg (by decide +kernel) (by rfl) (da_cons (dv 0) (da_cons (dclG Z.mg T.kc_InvalidPlan (by rfl)) da_nil)))) (da_cons (dde (dr_callB (g2_mono _) (bl_isV (isvT T) Z.K) T.b_isinstance Z.mg (by decide +kernel) (by rfl) (da_cons (dv 0) (da_cons (dclG Z.mg T.kc_InvalidText (by rfl)) da_nil)))) (da_cons (dde (dr_callB (g2_mono _) (bl_isV (isvT T) Z.K) T.b_isinstance Z.mg (by decide +kernel) (by rfl) (da_cons (dv 0) (da_cons (dclG Z.mg T.kc_InvalidWorld (by rfl)) da_nil)))) da_nil)))) nd rfl (by first | exact .inl rfl | exact .inr rfl)) (dss_cons (ds_set [1, 0] (dr_op op_addAll (dop_add Z.K) (dv 1) (dde (dr_lst (da_cons (dde (dr_callB (g2_mono _) (bl_isV (isvT T) Z.K) T.b_isinstance Z.mg (by decide +kernel) (by rfl) (da_cons (dv 0) (da_cons (dclG Z.mg T.kc_InvalidLooks (by rfl)) da_nil)))) (da_cons (dde (dr_callB (g2_mono _) (bl_isV (isvT T) Z.K) T.b_isinstance Z.mg (by decide +kernel) (by rfl) (da_cons (dv 0) (da_cons (dclG Z.mg T.kc_Refused (by rfl)) da_nil)))) (da_cons (dde (dr_callB (g2_mono _) (bl_isV (isvT T) Z.K) T.b_isinstance Z.mg (by decide +kernel) (by rfl) (da_cons (dv 0) (da_cons (dclG Z.mg T.kc_InvalidCommand (by rfl)) da_nil)))) da_nil)))))) nd rfl (by first | exact .inl rfl | exact .inr rfl)) (dss_one (ds_ret (dr_op op_addAll (dop_add Z.K) (dv 1) (dde (dr_lst (da_cons (dde (dr_callB (g2_mono _) (bl_isV (isvT T) Z.K) T.b_isinstance Z.mg (by decide +kernel) (by rfl) (da_cons (dv 0) (da_cons (dclG Z.mg T.kc_NoWorld (by rfl)) da_nil)))) (da_cons (dde (dr_callB (g2_mono _) (bl_isV (isvT T) Z.K) T.b_isinstance Z.mg (by decide +kernel) (by rfl) (da_cons (dv 0) (da_cons (dclG Z.mg T.kc_NoName (by rfl)) da_nil)))) da_nil)))))))))⟩
abbrev N_law : List Str := ["_law_script", "_law_deal_here", "_law_turn", "_law_value", "_law_made", "_law_told", "_law_spot", "_law_one", "_law_other"]
theorem sc_law : FnScope N_law ["_law_script"] (defScope s_law) := ⟨rfl, rfl, rfl, by decide +kernel, rfl, by decide +kernel, by decide +kernel⟩
theorem ok_law (T : Txt P G ts C ed) (B : TbAll G base ts) {f : Addr} {fd : FuncData} (F : Fun G.K "law" "law" s_law f fd) : FnD P w G base 12 f fd ["_law_script"] sem_law :=
  have nd := sc_law.nd
  fnd_ok F sc_law (by decide) fun cdv A outer s H E Z =>
    (dss_cons (ds_set [0] (dr_f Z (ok__law_deal T B) (by decide) (by rfl) (da_cons (dv 0) da_nil)) nd rfl (by first | exact .inl rfl | exact .inr rfl)) (dss_cons (ds_for [] (passes_of rfl) rfl (di_rng1 Z.mg (by rfl) T.b_range (da_cons de_int da_nil)) (dg_name (by exact nd) (by rfl) (by first | exact .inl rfl | exact .inr rfl)) (dss_cons (ds_set [1] (dr_f Z (ok__law_any T B) (by decide) (by rfl) (da_cons (dv 1) (da_cons de_int da_nil))) nd rfl (by first | exact .inl rfl | exact .inr rfl)) (dss_cons (ds_celS (ds_set [3, 2] (dr_if (dt_cmp (op_eqD Z.hu64) (dop_eq Z.K) (dv 2) de_int (nomark _)) (dr_lst (da_cons (dv 3) da_nil)) (ddr (dv 3))) nd rfl (by first | exact .inl rfl | exact .inr rfl))) (dss_cons (ds_set [3] (dr_lst (da_cons (de_exf Z T.y_InvalidPlan (by decide) T.b_super (de_ptr (pv 3))) (da_cons (de_exfw Z T.y_InvalidText (fun _ _ _ _ _ _ _ _ _ _ => rfl) (by decide) T.b_super (dk_cons (de_ptr (pv 3)) dk_nil)) (da_cons (de_exf Z T.y_InvalidWorld (by decide) T.b_super (de_ptr (pv 3))) (da_cons (de_exfw Z T.y_InvalidLooks (fun _ _ _ _ _ _ _ _ _ _ => rfl) (by decide) T.b_super (dk_cons (de_ptr (pv 3)) dk_nil)) da_nil))))) nd rfl (by first | exact .inl rfl | exact .inr rfl)) (dss_cons (ds_set [4, 3] (dr_op op_addAll (dop_add Z.K) (dv 4) (dde (dr_lst (da_cons (de_exf Z T.y_Refused (by decide) T.b_super (de_ptr (pv 3))) (da_cons (de_ex0 Z T.x_InvalidCommand) (da_cons (de_ex0 Z T.x_NoWorld) (da_cons (de_exk Z T.y_NoName (by decide) T.b_super (de_ptr (pv 3))) da_nil))))))) nd rfl (by first | exact .inl rfl | exact .inr rfl)) (dss_cons (ds_set [4] (dr_lst (da_cons (de_xe Z.K (xe_word T) (de_ix (ix_all Z.K Z.hu1) dop_ix (dv 4) de_int (fun _ _ => rfl))) (da_cons (de_xe Z.K (xe_at T) (de_ix (ix_all Z.K Z.hu1) dop_ix (dv 4) de_int (fun _ _ => rfl))) (da_cons (de_xe Z.K (xe_at T) (de_ix (ix_all Z.K Z.hu1) dop_ix (dv 4) de_int (fun _ _ => rfl))) (da_cons (de_xe Z.K (xe_at T) (de_ix (ix_all Z.K Z.hu1) dop_ix (dv 4) de_int (fun _ _ => rfl))) (da_cons (de_xe Z.K (xe_at T) (de_ix (ix_all Z.K Z.hu1) dop_ix (dv 4) de_int (fun _ _ => rfl))) (da_cons (de_xe Z.K (xe_name T) (de_ix (ix_all Z.K Z.hu1) dop_ix (dv 4) de_int (fun _ _ => rfl))) da_nil))))))) nd rfl (by first | exact .inl rfl | exact .inr rfl)) (dss_cons (ds_set [5, 3] (dr_op op_addAll (dop_add Z.K) (dv 5) (dde (dr_lst (da_cons (de_xe Z.K (xe_word T) (de_exfw Z T.y_InvalidPlan (fun _ _ _ _ _ _ _ _ _ _ => rfl) (by decide) T.b_super (dk_cons (de_ptr (pv 3)) dk_nil))) (da_cons (de_xe Z.K (xe_at T) (de_exfw Z T.y_Refused (fun _ _ _ _ _ _ _ _ _ _ => rfl) (by decide) T.b_super (dk_cons (de_ptr (pv 3)) dk_nil))) (da_cons (de_xe Z.K (xe_name T) (de_exkw Z T.y_NoName (fun _ _ _ _ _ _ _ _ _ _ => rfl) (by decide) T.b_super (dk_cons (de_ptr (pv 3)) dk_nil))) da_nil)))))) nd rfl (by first | exact .inl rfl | exact .inr rfl)) (dss_cons (ds_if (dt_cmp (op_eqD Z.hu64) (dop_eq Z.K) (dv 2) de_int (nomark _)) (dss_one (ds_appendC [] (pv 3) de_str)) dss_nil) (dss_cons (ds_if (dt_cmp (op_neD Z.hu64) (dop_ne Z.K) (dde (dr_lc (own := [("_law_one", 7)]) rfl nd (di_walk (by exact Z.K) (dv 5)) (blkOk_by (N := N_law) (sc := defScope s_law) (by decide +kernel)) (fun s H C cl fp => (dg_name (by exact nd) (by rfl) (by first | exact .inl rfl | exact .inr rfl))) (by decide) (fun s H C cl fp => (dts_one (dt_cmp (op_neD Z.hu64) (dop_ne Z.K) (dde (dr_callB (gReprS_mono) (bl_reprS Z.K Z.gd Z.hu) T.b_repr Z.mg (by decide +kernel) (by rfl) (da_cons (de_ali (pv 7)) da_nil))) (dde (dr_callB (gReprS_mono) (bl_reprS Z.K Z.gd Z.hu) T.b_repr Z.mg (by decide +kernel) (by rfl) (da_cons (de_ali (pv 3)) da_nil))) (nomark _)))) (fun s H C cl fp => de_int))) (dde (dr_lst da_nil)) (nomark _)) (dss_one (ds_ret (ddr de_bl))) dss_nil) (dss_one (ds_for [4] (passes_of rfl) rfl (di_enum Z.K Z.mg (by rfl) T.b_enumerate (da_cons (dv 4) da_nil)) (dg_tup (by exact Z.K) (by rfl) (dgs_cons (dg_name (by exact nd) (by rfl) (by first | exact .inl rfl | exact .inr rfl)) (dgs_cons (dg_name (by exact nd) (by rfl) (by first | exact .inl rfl | exact .inr rfl)) dgs_nil))) (dss_cons (ds_if (dt_cmp (op_neD Z.hu64) (dop_ne Z.K) (dde (dr_f Z (ok__law_sorts T B) (by decide) (by rfl) (da_cons (dv 7) da_nil))) (dde (dr_lc (own := [("_law_other", 8)]) rfl nd (di_rng1 Z.mg (by rfl) T.b_range (da_cons de_int da_nil)) (blkOk_by (N := N_law) (sc := defScope s_law) (by decide +kernel)) (fun s H C cl fp => (dg_name (by exact nd) (by rfl) (by first | exact .inl rfl | exact .inr rfl))) (by decide) (fun s H C cl fp => dts_nil) (fun s H C cl fp => (de_cmp (op_eqD Z.hu64) (dop_eq Z.K) (dv 6) (dv 8) (nomark _))))) (nomark _)) (dss_one (ds_ret (ddr de_bl))) dss_nil) (dss_cons (ds_if (DW.dt (dw_or (dt_cmp (op_neD Z.hu64) (dop_ne Z.K) (dde (dr_callB (g2_mono _) (bl_isV (isvT T) Z.K) T.b_isinstance Z.mg (by decide +kernel) (by rfl) (da_cons (dv 7) (da_cons (dclG Z.mg T.kc_BoreError (by rfl)) da_nil)))) (de_cmp op_lt dop_lt (dv 6) de_int (nomark _)) (nomark _)) (dw_or1 (dt_cmp (op_neD Z.hu64) (dop_ne Z.K) (dde (dr_callB (g2_mono _) (bl_isV (isvT T) Z.K) T.b_isinstance Z.mg (by decide +kernel) (by rfl) (da_cons (dv 7) (da_cons (dty Z (by rfl) T.b_ValueError (by decide +kernel)) da_nil)))) (de_cmp op_lt dop_lt (dv 6) de_int (nomark _)) (nomark _))))) (dss_one (ds_ret (ddr de_bl))) dss_nil) (dss_one (ds_if (dt_cmp (op_neD Z.hu64) (dop_ne Z.K) (dde (dr_callB (g2_mono _) (bl_isV (isvT T) Z.K) T.b_isinstance Z.mg (by decide +kernel) (by rfl) (da_cons (dv 7) (da_cons (dty Z (by rfl) T.b_KeyError (by decide +kernel)) da_nil)))) (de_cmp (op_eqD Z.hu64) (dop_eq Z.K) (dv 6) de_int (nomark _)) (nomark _)) (dss_one (ds_ret (ddr de_bl))) dss_nil))))))))))))))) (dss_one (ds_ret (ddr de_bl)))))
end
theorem all_mk {P : Program} {w : World} {K : PySem.W.Frag} {h : Heap} {mg : Str → Option Value} {fa r__law_pick r__law_any r__law_deal r__law_sorts r__law_draw r_law e_InvalidCommand e_NoWorld e_BoreError e_InvalidLooks e_InvalidPlan e_InvalidText e_InvalidWorld e_NoName e_Refused i_InvalidLooks d_InvalidLooks q_InvalidLooks i_InvalidPlan d_InvalidPlan q_InvalidPlan i_InvalidText d_InvalidText q_InvalidText i_InvalidWorld d_InvalidWorld q_InvalidWorld i_NoName d_NoName q_NoName i_Refused d_Refused q_Refused : Addr} (X : K.In h) (G : h.Ns mainGlobals mg) (hfa : mg "law" = some (.ref fa))
    {od__law_pick an__law_pick : Option Addr} {sl__law_pick : Array (Option Value)} {oc__law_pick kV__law_pick dc__law_pick pm__law_pick cd__law_pick ct__law_pick : Value}
    {od__law_any an__law_any : Option Addr} {sl__law_any : Array (Option Value)} {oc__law_any kV__law_any dc__law_any pm__law_any cd__law_any ct__law_any : Value}
    {od__law_deal an__law_deal : Option Addr} {sl__law_deal : Array (Option Value)} {oc__law_deal kV__law_deal dc__law_deal pm__law_deal cd__law_deal ct__law_deal : Value}
    {od__law_sorts an__law_sorts : Option Addr} {sl__law_sorts : Array (Option Value)} {oc__law_sorts kV__law_sorts dc__law_sorts pm__law_sorts cd__law_sorts ct__law_sorts : Value}
    {od__law_draw an__law_draw : Option Addr} {sl__law_draw : Array (Option Value)} {oc__law_draw kV__law_draw dc__law_draw pm__law_draw cd__law_draw ct__law_draw : Value}
    {od_law an_law : Option Addr} {sl_law : Array (Option Value)} {oc_law kV_law dc_law pm_law cd_law ct_law : Value}
    {od_XInvalidLooks an_XInvalidLooks : Option Addr} {sl_XInvalidLooks : Array (Option Value)} {oc_XInvalidLooks kV_XInvalidLooks dc_XInvalidLooks pm_XInvalidLooks ct_XInvalidLooks : Value}
    {od_XInvalidPlan an_XInvalidPlan : Option Addr} {sl_XInvalidPlan : Array (Option Value)} {oc_XInvalidPlan kV_XInvalidPlan dc_XInvalidPlan pm_XInvalidPlan ct_XInvalidPlan : Value}
    {od_XInvalidText an_XInvalidText : Option Addr} {sl_XInvalidText : Array (Option Value)} {oc_XInvalidText kV_XInvalidText dc_XInvalidText pm_XInvalidText ct_XInvalidText : Value}
    {od_XInvalidWorld an_XInvalidWorld : Option Addr} {sl_XInvalidWorld : Array (Option Value)} {oc_XInvalidWorld kV_XInvalidWorld dc_XInvalidWorld pm_XInvalidWorld ct_XInvalidWorld : Value}
    {od_XNoName an_XNoName : Option Addr} {sl_XNoName : Array (Option Value)} {oc_XNoName kV_XNoName dc_XNoName pm_XNoName ct_XNoName : Value}
    {od_XRefused an_XRefused : Option Addr} {sl_XRefused : Array (Option Value)} {oc_XRefused kV_XRefused dc_XRefused pm_XRefused ct_XRefused : Value}
    (h_a__law_pick : PySem.W.nsIn K mainGlobals "_law_pick" = some (some (.ref r__law_pick)))
    (h_l__law_pick : K.lookup r__law_pick = some ⟨oc__law_pick, od__law_pick, .func (PySem.W.fnOf "_law_pick" "_law_pick" (defArgs s__law_pick) (defBody s__law_pick) (defScope s__law_pick) .none kV__law_pick dc__law_pick pm__law_pick an__law_pick cd__law_pick ct__law_pick), sl__law_pick⟩)
    (h_c__law_pick : PySem.W.codeIn K cd__law_pick "_law_pick" = true)
    (h_k__law_pick : PySem.W.keepIn K (.ref r__law_pick) = true)
    (h_a__law_any : PySem.W.nsIn K mainGlobals "_law_any" = some (some (.ref r__law_any)))
    (h_l__law_any : K.lookup r__law_any = some ⟨oc__law_any, od__law_any, .func (PySem.W.fnOf "_law_any" "_law_any" (defArgs s__law_any) (defBody s__law_any) (defScope s__law_any) .none kV__law_any dc__law_any pm__law_any an__law_any cd__law_any ct__law_any), sl__law_any⟩)
    (h_c__law_any : PySem.W.codeIn K cd__law_any "_law_any" = true)
    (h_k__law_any : PySem.W.keepIn K (.ref r__law_any) = true)
    (h_a__law_deal : PySem.W.nsIn K mainGlobals "_law_deal" = some (some (.ref r__law_deal)))
    (h_l__law_deal : K.lookup r__law_deal = some ⟨oc__law_deal, od__law_deal, .func (PySem.W.fnOf "_law_deal" "_law_deal" (defArgs s__law_deal) (defBody s__law_deal) (defScope s__law_deal) .none kV__law_deal dc__law_deal pm__law_deal an__law_deal cd__law_deal ct__law_deal), sl__law_deal⟩)
    (h_c__law_deal : PySem.W.codeIn K cd__law_deal "_law_deal" = true)
    (h_k__law_deal : PySem.W.keepIn K (.ref r__law_deal) = true)
    (h_a__law_sorts : PySem.W.nsIn K mainGlobals "_law_sorts" = some (some (.ref r__law_sorts)))
    (h_l__law_sorts : K.lookup r__law_sorts = some ⟨oc__law_sorts, od__law_sorts, .func (PySem.W.fnOf "_law_sorts" "_law_sorts" (defArgs s__law_sorts) (defBody s__law_sorts) (defScope s__law_sorts) .none kV__law_sorts dc__law_sorts pm__law_sorts an__law_sorts cd__law_sorts ct__law_sorts), sl__law_sorts⟩)
    (h_c__law_sorts : PySem.W.codeIn K cd__law_sorts "_law_sorts" = true)
    (h_k__law_sorts : PySem.W.keepIn K (.ref r__law_sorts) = true)
    (h_a__law_draw : PySem.W.nsIn K mainGlobals "_law_draw" = some (some (.ref r__law_draw)))
    (h_l__law_draw : K.lookup r__law_draw = some ⟨oc__law_draw, od__law_draw, .func (PySem.W.fnOf "_law_draw" "_law_draw" (defArgs s__law_draw) (defBody s__law_draw) (defScope s__law_draw) .none kV__law_draw dc__law_draw pm__law_draw an__law_draw cd__law_draw ct__law_draw), sl__law_draw⟩)
    (h_c__law_draw : PySem.W.codeIn K cd__law_draw "_law_draw" = true)
    (h_k__law_draw : PySem.W.keepIn K (.ref r__law_draw) = true)
    (h_a_law : PySem.W.nsIn K mainGlobals "law" = some (some (.ref r_law)))
    (h_l_law : K.lookup r_law = some ⟨oc_law, od_law, .func (PySem.W.fnOf "law" "law" (defArgs s_law) (defBody s_law) (defScope s_law) .none kV_law dc_law pm_law an_law cd_law ct_law), sl_law⟩)
    (h_c_law : PySem.W.codeIn K cd_law "law" = true)
    (h_k_law : PySem.W.keepIn K (.ref r_law) = true)
    (h_z_cLive : PySem.W.nsIn K mainGlobals "Live" = some none)
    (h_z_cDesk : PySem.W.nsIn K mainGlobals "Desk" = some none)
    (h_xa_InvalidCommand : PySem.W.nsIn K mainGlobals "InvalidCommand" = some (some (.ref e_InvalidCommand)))
    (h_xe_InvalidCommand : PySem.W.excIn K e_InvalidCommand [.type "ValueError", .type "Exception", .type "BaseException", .type "object"] "ValueError.__new__" = true)
    (h_xk_InvalidCommand : PySem.W.keepIn K (.ref e_InvalidCommand) = true)
    (h_xs_InvalidCommand : PySem.W.subIn K (.ref e_InvalidCommand) (.type "BaseException") = some true)
    (h_xt_InvalidCommand : PySem.W.typeIn K (.ref e_InvalidCommand) = some (.type "type"))
    (h_xa_NoWorld : PySem.W.nsIn K mainGlobals "NoWorld" = some (some (.ref e_NoWorld)))
    (h_xe_NoWorld : PySem.W.excIn K e_NoWorld [.type "ValueError", .type "Exception", .type "BaseException", .type "object"] "ValueError.__new__" = true)
    (h_xk_NoWorld : PySem.W.keepIn K (.ref e_NoWorld) = true)
    (h_xs_NoWorld : PySem.W.subIn K (.ref e_NoWorld) (.type "BaseException") = some true)
    (h_xt_NoWorld : PySem.W.typeIn K (.ref e_NoWorld) = some (.type "type"))
    (h_xa_BoreError : PySem.W.nsIn K mainGlobals "BoreError" = some (some (.ref e_BoreError)))
    (h_xa_InvalidLooks : PySem.W.nsIn K mainGlobals "InvalidLooks" = some (some (.ref e_InvalidLooks)))
    (h_xa_InvalidPlan : PySem.W.nsIn K mainGlobals "InvalidPlan" = some (some (.ref e_InvalidPlan)))
    (h_xa_InvalidText : PySem.W.nsIn K mainGlobals "InvalidText" = some (some (.ref e_InvalidText)))
    (h_xa_InvalidWorld : PySem.W.nsIn K mainGlobals "InvalidWorld" = some (some (.ref e_InvalidWorld)))
    (h_xa_NoName : PySem.W.nsIn K mainGlobals "NoName" = some (some (.ref e_NoName)))
    (h_xa_Refused : PySem.W.nsIn K mainGlobals "Refused" = some (some (.ref e_Refused)))
    (h_xs_InvalidLooks : PySem.W.subIn K (.ref e_InvalidLooks) (.type "BaseException") = some true)
    (h_xt_InvalidLooks : PySem.W.typeIn K (.ref e_InvalidLooks) = some (.type "type"))
    (h_xs_InvalidPlan : PySem.W.subIn K (.ref e_InvalidPlan) (.type "BaseException") = some true)
    (h_xt_InvalidPlan : PySem.W.typeIn K (.ref e_InvalidPlan) = some (.type "type"))
    (h_xs_InvalidText : PySem.W.subIn K (.ref e_InvalidText) (.type "BaseException") = some true)
    (h_xt_InvalidText : PySem.W.typeIn K (.ref e_InvalidText) = some (.type "type"))
    (h_xs_InvalidWorld : PySem.W.subIn K (.ref e_InvalidWorld) (.type "BaseException") = some true)
    (h_xt_InvalidWorld : PySem.W.typeIn K (.ref e_InvalidWorld) = some (.type "type"))
    (h_xs_NoName : PySem.W.subIn K (.ref e_NoName) (.type "BaseException") = some true)
    (h_xt_NoName : PySem.W.typeIn K (.ref e_NoName) = some (.type "type"))
    (h_xs_Refused : PySem.W.subIn K (.ref e_Refused) (.type "BaseException") = some true)
    (h_xt_Refused : PySem.W.typeIn K (.ref e_Refused) = some (.type "type"))
    (h_yi_InvalidLooks : PySem.W.findIn K (.ref e_InvalidLooks) "__init__" = some (some (.ref i_InvalidLooks)))
    (h_yl_InvalidLooks : K.lookup i_InvalidLooks = some ⟨oc_XInvalidLooks, od_XInvalidLooks, .func (PySem.W.ksFn "__init__" "InvalidLooks.__init__" (defArgs s_InvalidLooks___init__) (defBody s_InvalidLooks___init__) (defScope s_InvalidLooks___init__) .none kV_XInvalidLooks dc_XInvalidLooks pm_XInvalidLooks an_XInvalidLooks (.ref d_InvalidLooks) ct_XInvalidLooks q_InvalidLooks), sl_XInvalidLooks⟩)
    (h_yc_InvalidLooks : PySem.W.codeIn K (.ref d_InvalidLooks) "InvalidLooks.__init__" = true)
    (h_yf_InvalidLooks : fileB P K d_InvalidLooks = true)
    (h_yq_InvalidLooks : cellB K q_InvalidLooks e_InvalidLooks = true)
    (h_yx_InvalidLooks : xiniB P K e_InvalidLooks i_InvalidLooks "at" = true)
    (h_yi_InvalidPlan : PySem.W.findIn K (.ref e_InvalidPlan) "__init__" = some (some (.ref i_InvalidPlan)))
    (h_yl_InvalidPlan : K.lookup i_InvalidPlan = some ⟨oc_XInvalidPlan, od_XInvalidPlan, .func (PySem.W.ksFn "__init__" "InvalidPlan.__init__" (defArgs s_InvalidPlan___init__) (defBody s_InvalidPlan___init__) (defScope s_InvalidPlan___init__) .none kV_XInvalidPlan dc_XInvalidPlan pm_XInvalidPlan an_XInvalidPlan (.ref d_InvalidPlan) ct_XInvalidPlan q_InvalidPlan), sl_XInvalidPlan⟩)
    (h_yc_InvalidPlan : PySem.W.codeIn K (.ref d_InvalidPlan) "InvalidPlan.__init__" = true)
    (h_yf_InvalidPlan : fileB P K d_InvalidPlan = true)
    (h_yq_InvalidPlan : cellB K q_InvalidPlan e_InvalidPlan = true)
    (h_yx_InvalidPlan : xiniB P K e_InvalidPlan i_InvalidPlan "word" = true)
    (h_yi_InvalidText : PySem.W.findIn K (.ref e_InvalidText) "__init__" = some (some (.ref i_InvalidText)))
    (h_yl_InvalidText : K.lookup i_InvalidText = some ⟨oc_XInvalidText, od_XInvalidText, .func (PySem.W.ksFn "__init__" "InvalidText.__init__" (defArgs s_InvalidText___init__) (defBody s_InvalidText___init__) (defScope s_InvalidText___init__) .none kV_XInvalidText dc_XInvalidText pm_XInvalidText an_XInvalidText (.ref d_InvalidText) ct_XInvalidText q_InvalidText), sl_XInvalidText⟩)
    (h_yc_InvalidText : PySem.W.codeIn K (.ref d_InvalidText) "InvalidText.__init__" = true)
    (h_yf_InvalidText : fileB P K d_InvalidText = true)
    (h_yq_InvalidText : cellB K q_InvalidText e_InvalidText = true)
    (h_yx_InvalidText : xiniB P K e_InvalidText i_InvalidText "at" = true)
    (h_yi_InvalidWorld : PySem.W.findIn K (.ref e_InvalidWorld) "__init__" = some (some (.ref i_InvalidWorld)))
    (h_yl_InvalidWorld : K.lookup i_InvalidWorld = some ⟨oc_XInvalidWorld, od_XInvalidWorld, .func (PySem.W.ksFn "__init__" "InvalidWorld.__init__" (defArgs s_InvalidWorld___init__) (defBody s_InvalidWorld___init__) (defScope s_InvalidWorld___init__) .none kV_XInvalidWorld dc_XInvalidWorld pm_XInvalidWorld an_XInvalidWorld (.ref d_InvalidWorld) ct_XInvalidWorld q_InvalidWorld), sl_XInvalidWorld⟩)
    (h_yc_InvalidWorld : PySem.W.codeIn K (.ref d_InvalidWorld) "InvalidWorld.__init__" = true)
    (h_yf_InvalidWorld : fileB P K d_InvalidWorld = true)
    (h_yq_InvalidWorld : cellB K q_InvalidWorld e_InvalidWorld = true)
    (h_yx_InvalidWorld : xiniB P K e_InvalidWorld i_InvalidWorld "at" = true)
    (h_yi_NoName : PySem.W.findIn K (.ref e_NoName) "__init__" = some (some (.ref i_NoName)))
    (h_yl_NoName : K.lookup i_NoName = some ⟨oc_XNoName, od_XNoName, .func (PySem.W.ksFn "__init__" "NoName.__init__" (defArgs s_NoName___init__) (defBody s_NoName___init__) (defScope s_NoName___init__) .none kV_XNoName dc_XNoName pm_XNoName an_XNoName (.ref d_NoName) ct_XNoName q_NoName), sl_XNoName⟩)
    (h_yc_NoName : PySem.W.codeIn K (.ref d_NoName) "NoName.__init__" = true)
    (h_yf_NoName : fileB P K d_NoName = true)
    (h_yq_NoName : cellB K q_NoName e_NoName = true)
    (h_yx_NoName : xinikB P K e_NoName i_NoName "name" = true)
    (h_yi_Refused : PySem.W.findIn K (.ref e_Refused) "__init__" = some (some (.ref i_Refused)))
    (h_yl_Refused : K.lookup i_Refused = some ⟨oc_XRefused, od_XRefused, .func (PySem.W.ksFn "__init__" "Refused.__init__" (defArgs s_Refused___init__) (defBody s_Refused___init__) (defScope s_Refused___init__) .none kV_XRefused dc_XRefused pm_XRefused an_XRefused (.ref d_Refused) ct_XRefused q_Refused), sl_XRefused⟩)
    (h_yc_Refused : PySem.W.codeIn K (.ref d_Refused) "Refused.__init__" = true)
    (h_yf_Refused : fileB P K d_Refused = true)
    (h_yq_Refused : cellB K q_Refused e_Refused = true)
    (h_yx_Refused : xiniB P K e_Refused i_Refused "at" = true)
    (h_hx_InvalidCommand : xcatB K e_InvalidCommand = true)
    (h_hn_InvalidCommand : PySem.W.findIn K (.ref e_InvalidCommand) "at" = some none)
    (h_hu_InvalidCommand_ValueError : PySem.W.kitOne K (.ref e_InvalidCommand) (.type "ValueError") = some true)
    (h_hu_InvalidCommand_KeyError : PySem.W.kitOne K (.ref e_InvalidCommand) (.type "KeyError") = some false)
    (h_hi_InvalidCommand_InvalidPlan : PySem.W.kitOne K (.ref e_InvalidCommand) (.ref e_InvalidPlan) = some false)
    (h_hi_InvalidCommand_InvalidText : PySem.W.kitOne K (.ref e_InvalidCommand) (.ref e_InvalidText) = some false)
    (h_hi_InvalidCommand_InvalidWorld : PySem.W.kitOne K (.ref e_InvalidCommand) (.ref e_InvalidWorld) = some false)
    (h_hi_InvalidCommand_InvalidLooks : PySem.W.kitOne K (.ref e_InvalidCommand) (.ref e_InvalidLooks) = some false)
    (h_hi_InvalidCommand_Refused : PySem.W.kitOne K (.ref e_InvalidCommand) (.ref e_Refused) = some false)
    (h_hi_InvalidCommand_InvalidCommand : PySem.W.kitOne K (.ref e_InvalidCommand) (.ref e_InvalidCommand) = some true)
    (h_hi_InvalidCommand_NoWorld : PySem.W.kitOne K (.ref e_InvalidCommand) (.ref e_NoWorld) = some false)
    (h_hi_InvalidCommand_NoName : PySem.W.kitOne K (.ref e_InvalidCommand) (.ref e_NoName) = some false)
    (h_hi_InvalidCommand_BoreError : PySem.W.kitOne K (.ref e_InvalidCommand) (.ref e_BoreError) = some true)
    (h_hx_InvalidLooks : xcatB K e_InvalidLooks = true)
    (h_hn_InvalidLooks : PySem.W.findIn K (.ref e_InvalidLooks) "at" = some none)
    (h_hu_InvalidLooks_ValueError : PySem.W.kitOne K (.ref e_InvalidLooks) (.type "ValueError") = some true)
    (h_hu_InvalidLooks_KeyError : PySem.W.kitOne K (.ref e_InvalidLooks) (.type "KeyError") = some false)
    (h_hi_InvalidLooks_InvalidPlan : PySem.W.kitOne K (.ref e_InvalidLooks) (.ref e_InvalidPlan) = some false)
    (h_hi_InvalidLooks_InvalidText : PySem.W.kitOne K (.ref e_InvalidLooks) (.ref e_InvalidText) = some false)
    (h_hi_InvalidLooks_InvalidWorld : PySem.W.kitOne K (.ref e_InvalidLooks) (.ref e_InvalidWorld) = some false)
    (h_hi_InvalidLooks_InvalidLooks : PySem.W.kitOne K (.ref e_InvalidLooks) (.ref e_InvalidLooks) = some true)
    (h_hi_InvalidLooks_Refused : PySem.W.kitOne K (.ref e_InvalidLooks) (.ref e_Refused) = some false)
    (h_hi_InvalidLooks_InvalidCommand : PySem.W.kitOne K (.ref e_InvalidLooks) (.ref e_InvalidCommand) = some false)
    (h_hi_InvalidLooks_NoWorld : PySem.W.kitOne K (.ref e_InvalidLooks) (.ref e_NoWorld) = some false)
    (h_hi_InvalidLooks_NoName : PySem.W.kitOne K (.ref e_InvalidLooks) (.ref e_NoName) = some false)
    (h_hi_InvalidLooks_BoreError : PySem.W.kitOne K (.ref e_InvalidLooks) (.ref e_BoreError) = some true)
    (h_hx_InvalidPlan : xcatB K e_InvalidPlan = true)
    (h_hn_InvalidPlan : PySem.W.findIn K (.ref e_InvalidPlan) "word" = some none)
    (h_hu_InvalidPlan_ValueError : PySem.W.kitOne K (.ref e_InvalidPlan) (.type "ValueError") = some true)
    (h_hu_InvalidPlan_KeyError : PySem.W.kitOne K (.ref e_InvalidPlan) (.type "KeyError") = some false)
    (h_hi_InvalidPlan_InvalidPlan : PySem.W.kitOne K (.ref e_InvalidPlan) (.ref e_InvalidPlan) = some true)
    (h_hi_InvalidPlan_InvalidText : PySem.W.kitOne K (.ref e_InvalidPlan) (.ref e_InvalidText) = some false)
    (h_hi_InvalidPlan_InvalidWorld : PySem.W.kitOne K (.ref e_InvalidPlan) (.ref e_InvalidWorld) = some false)
    (h_hi_InvalidPlan_InvalidLooks : PySem.W.kitOne K (.ref e_InvalidPlan) (.ref e_InvalidLooks) = some false)
    (h_hi_InvalidPlan_Refused : PySem.W.kitOne K (.ref e_InvalidPlan) (.ref e_Refused) = some false)
    (h_hi_InvalidPlan_InvalidCommand : PySem.W.kitOne K (.ref e_InvalidPlan) (.ref e_InvalidCommand) = some false)
    (h_hi_InvalidPlan_NoWorld : PySem.W.kitOne K (.ref e_InvalidPlan) (.ref e_NoWorld) = some false)
    (h_hi_InvalidPlan_NoName : PySem.W.kitOne K (.ref e_InvalidPlan) (.ref e_NoName) = some false)
    (h_hi_InvalidPlan_BoreError : PySem.W.kitOne K (.ref e_InvalidPlan) (.ref e_BoreError) = some true)
    (h_hx_InvalidText : xcatB K e_InvalidText = true)
    (h_hn_InvalidText : PySem.W.findIn K (.ref e_InvalidText) "at" = some none)
    (h_hu_InvalidText_ValueError : PySem.W.kitOne K (.ref e_InvalidText) (.type "ValueError") = some true)
    (h_hu_InvalidText_KeyError : PySem.W.kitOne K (.ref e_InvalidText) (.type "KeyError") = some false)
    (h_hi_InvalidText_InvalidPlan : PySem.W.kitOne K (.ref e_InvalidText) (.ref e_InvalidPlan) = some false)
    (h_hi_InvalidText_InvalidText : PySem.W.kitOne K (.ref e_InvalidText) (.ref e_InvalidText) = some true)
    (h_hi_InvalidText_InvalidWorld : PySem.W.kitOne K (.ref e_InvalidText) (.ref e_InvalidWorld) = some false)
    (h_hi_InvalidText_InvalidLooks : PySem.W.kitOne K (.ref e_InvalidText) (.ref e_InvalidLooks) = some false)
    (h_hi_InvalidText_Refused : PySem.W.kitOne K (.ref e_InvalidText) (.ref e_Refused) = some false)
    (h_hi_InvalidText_InvalidCommand : PySem.W.kitOne K (.ref e_InvalidText) (.ref e_InvalidCommand) = some false)
    (h_hi_InvalidText_NoWorld : PySem.W.kitOne K (.ref e_InvalidText) (.ref e_NoWorld) = some false)
    (h_hi_InvalidText_NoName : PySem.W.kitOne K (.ref e_InvalidText) (.ref e_NoName) = some false)
    (h_hi_InvalidText_BoreError : PySem.W.kitOne K (.ref e_InvalidText) (.ref e_BoreError) = some true)
    (h_hx_InvalidWorld : xcatB K e_InvalidWorld = true)
    (h_hn_InvalidWorld : PySem.W.findIn K (.ref e_InvalidWorld) "at" = some none)
    (h_hu_InvalidWorld_ValueError : PySem.W.kitOne K (.ref e_InvalidWorld) (.type "ValueError") = some true)
    (h_hu_InvalidWorld_KeyError : PySem.W.kitOne K (.ref e_InvalidWorld) (.type "KeyError") = some false)
    (h_hi_InvalidWorld_InvalidPlan : PySem.W.kitOne K (.ref e_InvalidWorld) (.ref e_InvalidPlan) = some false)
    (h_hi_InvalidWorld_InvalidText : PySem.W.kitOne K (.ref e_InvalidWorld) (.ref e_InvalidText) = some false)
    (h_hi_InvalidWorld_InvalidWorld : PySem.W.kitOne K (.ref e_InvalidWorld) (.ref e_InvalidWorld) = some true)
    (h_hi_InvalidWorld_InvalidLooks : PySem.W.kitOne K (.ref e_InvalidWorld) (.ref e_InvalidLooks) = some false)
    (h_hi_InvalidWorld_Refused : PySem.W.kitOne K (.ref e_InvalidWorld) (.ref e_Refused) = some false)
    (h_hi_InvalidWorld_InvalidCommand : PySem.W.kitOne K (.ref e_InvalidWorld) (.ref e_InvalidCommand) = some false)
    (h_hi_InvalidWorld_NoWorld : PySem.W.kitOne K (.ref e_InvalidWorld) (.ref e_NoWorld) = some false)
    (h_hi_InvalidWorld_NoName : PySem.W.kitOne K (.ref e_InvalidWorld) (.ref e_NoName) = some false)
    (h_hi_InvalidWorld_BoreError : PySem.W.kitOne K (.ref e_InvalidWorld) (.ref e_BoreError) = some true)
    (h_hx_NoName : xcatB K e_NoName = true)
    (h_hn_NoName : PySem.W.findIn K (.ref e_NoName) "name" = some none)
    (h_hu_NoName_ValueError : PySem.W.kitOne K (.ref e_NoName) (.type "ValueError") = some false)
    (h_hu_NoName_KeyError : PySem.W.kitOne K (.ref e_NoName) (.type "KeyError") = some true)
    (h_hi_NoName_InvalidPlan : PySem.W.kitOne K (.ref e_NoName) (.ref e_InvalidPlan) = some false)
    (h_hi_NoName_InvalidText : PySem.W.kitOne K (.ref e_NoName) (.ref e_InvalidText) = some false)
    (h_hi_NoName_InvalidWorld : PySem.W.kitOne K (.ref e_NoName) (.ref e_InvalidWorld) = some false)
    (h_hi_NoName_InvalidLooks : PySem.W.kitOne K (.ref e_NoName) (.ref e_InvalidLooks) = some false)
    (h_hi_NoName_Refused : PySem.W.kitOne K (.ref e_NoName) (.ref e_Refused) = some false)
    (h_hi_NoName_InvalidCommand : PySem.W.kitOne K (.ref e_NoName) (.ref e_InvalidCommand) = some false)
    (h_hi_NoName_NoWorld : PySem.W.kitOne K (.ref e_NoName) (.ref e_NoWorld) = some false)
    (h_hi_NoName_NoName : PySem.W.kitOne K (.ref e_NoName) (.ref e_NoName) = some true)
    (h_hi_NoName_BoreError : PySem.W.kitOne K (.ref e_NoName) (.ref e_BoreError) = some false)
    (h_hx_NoWorld : xcatB K e_NoWorld = true)
    (h_hn_NoWorld : PySem.W.findIn K (.ref e_NoWorld) "at" = some none)
    (h_hu_NoWorld_ValueError : PySem.W.kitOne K (.ref e_NoWorld) (.type "ValueError") = some true)
    (h_hu_NoWorld_KeyError : PySem.W.kitOne K (.ref e_NoWorld) (.type "KeyError") = some false)
    (h_hi_NoWorld_InvalidPlan : PySem.W.kitOne K (.ref e_NoWorld) (.ref e_InvalidPlan) = some false)
    (h_hi_NoWorld_InvalidText : PySem.W.kitOne K (.ref e_NoWorld) (.ref e_InvalidText) = some false)
    (h_hi_NoWorld_InvalidWorld : PySem.W.kitOne K (.ref e_NoWorld) (.ref e_InvalidWorld) = some false)
    (h_hi_NoWorld_InvalidLooks : PySem.W.kitOne K (.ref e_NoWorld) (.ref e_InvalidLooks) = some false)
    (h_hi_NoWorld_Refused : PySem.W.kitOne K (.ref e_NoWorld) (.ref e_Refused) = some false)
    (h_hi_NoWorld_InvalidCommand : PySem.W.kitOne K (.ref e_NoWorld) (.ref e_InvalidCommand) = some false)
    (h_hi_NoWorld_NoWorld : PySem.W.kitOne K (.ref e_NoWorld) (.ref e_NoWorld) = some true)
    (h_hi_NoWorld_NoName : PySem.W.kitOne K (.ref e_NoWorld) (.ref e_NoName) = some false)
    (h_hi_NoWorld_BoreError : PySem.W.kitOne K (.ref e_NoWorld) (.ref e_BoreError) = some true)
    (h_hx_Refused : xcatB K e_Refused = true)
    (h_hn_Refused : PySem.W.findIn K (.ref e_Refused) "at" = some none)
    (h_hu_Refused_ValueError : PySem.W.kitOne K (.ref e_Refused) (.type "ValueError") = some true)
    (h_hu_Refused_KeyError : PySem.W.kitOne K (.ref e_Refused) (.type "KeyError") = some false)
    (h_hi_Refused_InvalidPlan : PySem.W.kitOne K (.ref e_Refused) (.ref e_InvalidPlan) = some false)
    (h_hi_Refused_InvalidText : PySem.W.kitOne K (.ref e_Refused) (.ref e_InvalidText) = some false)
    (h_hi_Refused_InvalidWorld : PySem.W.kitOne K (.ref e_Refused) (.ref e_InvalidWorld) = some false)
    (h_hi_Refused_InvalidLooks : PySem.W.kitOne K (.ref e_Refused) (.ref e_InvalidLooks) = some false)
    (h_hi_Refused_Refused : PySem.W.kitOne K (.ref e_Refused) (.ref e_Refused) = some true)
    (h_hi_Refused_InvalidCommand : PySem.W.kitOne K (.ref e_Refused) (.ref e_InvalidCommand) = some false)
    (h_hi_Refused_NoWorld : PySem.W.kitOne K (.ref e_Refused) (.ref e_NoWorld) = some false)
    (h_hi_Refused_NoName : PySem.W.kitOne K (.ref e_Refused) (.ref e_NoName) = some false)
    (h_hi_Refused_BoreError : PySem.W.kitOne K (.ref e_Refused) (.ref e_BoreError) = some true)
    (h_tq : tbsOk ([] : List Tb) = true)
    (h_z_KeyError : PySem.W.nsIn K mainGlobals "KeyError" = some none)
    (h_z_ValueError : PySem.W.nsIn K mainGlobals "ValueError" = some none)
    (h_z_abs : PySem.W.nsIn K mainGlobals "abs" = some none)
    (h_z_bool : PySem.W.nsIn K mainGlobals "bool" = some none)
    (h_z_enumerate : PySem.W.nsIn K mainGlobals "enumerate" = some none)
    (h_z_int : PySem.W.nsIn K mainGlobals "int" = some none)
    (h_z_isinstance : PySem.W.nsIn K mainGlobals "isinstance" = some none)
    (h_z_len : PySem.W.nsIn K mainGlobals "len" = some none)
    (h_z_list : PySem.W.nsIn K mainGlobals "list" = some none)
    (h_z_range : PySem.W.nsIn K mainGlobals "range" = some none)
    (h_z_repr : PySem.W.nsIn K mainGlobals "repr" = some none)
    (h_z_str : PySem.W.nsIn K mainGlobals "str" = some none)
    (h_z_super : PySem.W.nsIn K mainGlobals "super" = some none)
    (h_z_tuple : PySem.W.nsIn K mainGlobals "tuple" = some none)
    : ∃ (fd : FuncData) (ts : List Tb), (∀ t ∈ ts, ∃ x ∈ ([] : List Str), PySem.W.tabIn K x = some (t.c, t.P) ∧ K.lookup t.P = none) ∧ (∀ (s : Shared) (u : Value), BindsTo s fd ⟨[u], []⟩ [("_law_script", u)]) ∧ ∀ base : Heap, K.In base → base.Ns mainGlobals mg → (∀ t ∈ ts, LamX.TabB base mg t.c t.P) → FnD P w ⟨K, mg, tabsOf ts⟩ base 12 fa fd ["_law_script"] sem_law := by
  have e := hfa.symm.trans (PySem.W.mg_of X G h_a_law)
  cases e
  have FL := fun_mk (st := s_law) h_l_law h_c_law h_k_law
  obtain ⟨ts, ets⟩ : ∃ ts : List Tb, ts = [] := ⟨_, rfl⟩
  rw [← ets] at h_tq
  have T : Txt P ⟨K, mg, tabsOf ts⟩ ts 0 0 := { tabs := rfl, b_KeyError := PySem.W.mg_none_of X G h_z_KeyError, b_ValueError := PySem.W.mg_none_of X G h_z_ValueError, b_abs := PySem.W.mg_none_of X G h_z_abs, b_bool := PySem.W.mg_none_of X G h_z_bool, b_enumerate := PySem.W.mg_none_of X G h_z_enumerate, b_int := PySem.W.mg_none_of X G h_z_int, b_isinstance := PySem.W.mg_none_of X G h_z_isinstance, b_len := PySem.W.mg_none_of X G h_z_len, b_list := PySem.W.mg_none_of X G h_z_list, b_range := PySem.W.mg_none_of X G h_z_range, b_repr := PySem.W.mg_none_of X G h_z_repr, b_str := PySem.W.mg_none_of X G h_z_str, b_super := PySem.W.mg_none_of X G h_z_super, b_tuple := PySem.W.mg_none_of X G h_z_tuple, f__law_pick := ⟨_, _, PySem.W.mg_of X G h_a__law_pick, fun_mk (st := s__law_pick) h_l__law_pick h_c__law_pick h_k__law_pick⟩, f__law_any := ⟨_, _, PySem.W.mg_of X G h_a__law_any, fun_mk (st := s__law_any) h_l__law_any h_c__law_any h_k__law_any⟩, f__law_deal := ⟨_, _, PySem.W.mg_of X G h_a__law_deal, fun_mk (st := s__law_deal) h_l__law_deal h_c__law_deal h_k__law_deal⟩, f__law_sorts := ⟨_, _, PySem.W.mg_of X G h_a__law_sorts, fun_mk (st := s__law_sorts) h_l__law_sorts h_c__law_sorts h_k__law_sorts⟩, f__law_draw := ⟨_, _, PySem.W.mg_of X G h_a__law_draw, fun_mk (st := s__law_draw) h_l__law_draw h_c__law_draw h_k__law_draw⟩, f_law := ⟨_, _, PySem.W.mg_of X G h_a_law, fun_mk (st := s_law) h_l_law h_c_law h_k_law⟩, x_InvalidCommand := ⟨_, PySem.W.mg_of X G h_xa_InvalidCommand, h_xe_InvalidCommand, h_xk_InvalidCommand, h_xs_InvalidCommand, h_xt_InvalidCommand⟩, x_NoWorld := ⟨_, PySem.W.mg_of X G h_xa_NoWorld, h_xe_NoWorld, h_xk_NoWorld, h_xs_NoWorld, h_xt_NoWorld⟩, y_InvalidLooks := ⟨_, _, _, PySem.W.mg_of X G h_xa_InvalidLooks, xiniB_ok h_yx_InvalidLooks (xfn_of h_yl_InvalidLooks h_yc_InvalidLooks h_yf_InvalidLooks h_yq_InvalidLooks), sh_InvalidLooks⟩, y_InvalidPlan := ⟨_, _, _, PySem.W.mg_of X G h_xa_InvalidPlan, xiniB_ok h_yx_InvalidPlan (xfn_of h_yl_InvalidPlan h_yc_InvalidPlan h_yf_InvalidPlan h_yq_InvalidPlan), sh_InvalidPlan⟩, y_InvalidText := ⟨_, _, _, PySem.W.mg_of X G h_xa_InvalidText, xiniB_ok h_yx_InvalidText (xfn_of h_yl_InvalidText h_yc_InvalidText h_yf_InvalidText h_yq_InvalidText), sh_InvalidText⟩, y_InvalidWorld := ⟨_, _, _, PySem.W.mg_of X G h_xa_InvalidWorld, xiniB_ok h_yx_InvalidWorld (xfn_of h_yl_InvalidWorld h_yc_InvalidWorld h_yf_InvalidWorld h_yq_InvalidWorld), sh_InvalidWorld⟩, y_NoName := ⟨_, _, _, PySem.W.mg_of X G h_xa_NoName, xinikB_ok h_yx_NoName (xfn_of h_yl_NoName h_yc_NoName h_yf_NoName h_yq_NoName), sh_NoName⟩, y_Refused := ⟨_, _, _, PySem.W.mg_of X G h_xa_Refused, xiniB_ok h_yx_Refused (xfn_of h_yl_Refused h_yc_Refused h_yf_Refused h_yq_Refused), sh_Refused⟩, e_InvalidCommand := ⟨_, PySem.W.mg_of X G h_xa_InvalidCommand, xcatB_ok (PySem.W.mg_of X G h_xa_InvalidCommand) h_hx_InvalidCommand, h_hn_InvalidCommand, (isn_cons (PySem.W.mg_of X G h_xa_InvalidPlan) h_hi_InvalidCommand_InvalidPlan (isn_cons (PySem.W.mg_of X G h_xa_InvalidText) h_hi_InvalidCommand_InvalidText (isn_cons (PySem.W.mg_of X G h_xa_InvalidWorld) h_hi_InvalidCommand_InvalidWorld (isn_cons (PySem.W.mg_of X G h_xa_InvalidLooks) h_hi_InvalidCommand_InvalidLooks (isn_cons (PySem.W.mg_of X G h_xa_Refused) h_hi_InvalidCommand_Refused (isn_cons (PySem.W.mg_of X G h_xa_InvalidCommand) h_hi_InvalidCommand_InvalidCommand (isn_cons (PySem.W.mg_of X G h_xa_NoWorld) h_hi_InvalidCommand_NoWorld (isn_cons (PySem.W.mg_of X G h_xa_NoName) h_hi_InvalidCommand_NoName (isn_cons (PySem.W.mg_of X G h_xa_BoreError) h_hi_InvalidCommand_BoreError isn_nil)))))))))⟩, u_InvalidCommand := fun xC h => (by have e := (PySem.W.mg_of X G h_xa_InvalidCommand).symm.trans h; cases e; exact ist_cons h_hu_InvalidCommand_ValueError (ist_cons h_hu_InvalidCommand_KeyError ist_nil)), e_InvalidLooks := ⟨_, PySem.W.mg_of X G h_xa_InvalidLooks, xcatB_ok (PySem.W.mg_of X G h_xa_InvalidLooks) h_hx_InvalidLooks, h_hn_InvalidLooks, (isn_cons (PySem.W.mg_of X G h_xa_InvalidPlan) h_hi_InvalidLooks_InvalidPlan (isn_cons (PySem.W.mg_of X G h_xa_InvalidText) h_hi_InvalidLooks_InvalidText (isn_cons (PySem.W.mg_of X G h_xa_InvalidWorld) h_hi_InvalidLooks_InvalidWorld (isn_cons (PySem.W.mg_of X G h_xa_InvalidLooks) h_hi_InvalidLooks_InvalidLooks (isn_cons (PySem.W.mg_of X G h_xa_Refused) h_hi_InvalidLooks_Refused (isn_cons (PySem.W.mg_of X G h_xa_InvalidCommand) h_hi_InvalidLooks_InvalidCommand (isn_cons (PySem.W.mg_of X G h_xa_NoWorld) h_hi_InvalidLooks_NoWorld (isn_cons (PySem.W.mg_of X G h_xa_NoName) h_hi_InvalidLooks_NoName (isn_cons (PySem.W.mg_of X G h_xa_BoreError) h_hi_InvalidLooks_BoreError isn_nil)))))))))⟩, u_InvalidLooks := fun xC h => (by have e := (PySem.W.mg_of X G h_xa_InvalidLooks).symm.trans h; cases e; exact ist_cons h_hu_InvalidLooks_ValueError (ist_cons h_hu_InvalidLooks_KeyError ist_nil)), e_InvalidPlan := ⟨_, PySem.W.mg_of X G h_xa_InvalidPlan, xcatB_ok (PySem.W.mg_of X G h_xa_InvalidPlan) h_hx_InvalidPlan, h_hn_InvalidPlan, (isn_cons (PySem.W.mg_of X G h_xa_InvalidPlan) h_hi_InvalidPlan_InvalidPlan (isn_cons (PySem.W.mg_of X G h_xa_InvalidText) h_hi_InvalidPlan_InvalidText (isn_cons (PySem.W.mg_of X G h_xa_InvalidWorld) h_hi_InvalidPlan_InvalidWorld (isn_cons (PySem.W.mg_of X G h_xa_InvalidLooks) h_hi_InvalidPlan_InvalidLooks (isn_cons (PySem.W.mg_of X G h_xa_Refused) h_hi_InvalidPlan_Refused (isn_cons (PySem.W.mg_of X G h_xa_InvalidCommand) h_hi_InvalidPlan_InvalidCommand (isn_cons (PySem.W.mg_of X G h_xa_NoWorld) h_hi_InvalidPlan_NoWorld (isn_cons (PySem.W.mg_of X G h_xa_NoName) h_hi_InvalidPlan_NoName (isn_cons (PySem.W.mg_of X G h_xa_BoreError) h_hi_InvalidPlan_BoreError isn_nil)))))))))⟩, u_InvalidPlan := fun xC h => (by have e := (PySem.W.mg_of X G h_xa_InvalidPlan).symm.trans h; cases e; exact ist_cons h_hu_InvalidPlan_ValueError (ist_cons h_hu_InvalidPlan_KeyError ist_nil)), e_InvalidText := ⟨_, PySem.W.mg_of X G h_xa_InvalidText, xcatB_ok (PySem.W.mg_of X G h_xa_InvalidText) h_hx_InvalidText, h_hn_InvalidText, (isn_cons (PySem.W.mg_of X G h_xa_InvalidPlan) h_hi_InvalidText_InvalidPlan (isn_cons (PySem.W.mg_of X G h_xa_InvalidText) h_hi_InvalidText_InvalidText (isn_cons (PySem.W.mg_of X G h_xa_InvalidWorld) h_hi_InvalidText_InvalidWorld (isn_cons (PySem.W.mg_of X G h_xa_InvalidLooks) h_hi_InvalidText_InvalidLooks (isn_cons (PySem.W.mg_of X G h_xa_Refused) h_hi_InvalidText_Refused (isn_cons (PySem.W.mg_of X G h_xa_InvalidCommand) h_hi_InvalidText_InvalidCommand (isn_cons (PySem.W.mg_of X G h_xa_NoWorld) h_hi_InvalidText_NoWorld (isn_cons (PySem.W.mg_of X G h_xa_NoName) h_hi_InvalidText_NoName (isn_cons (PySem.W.mg_of X G h_xa_BoreError) h_hi_InvalidText_BoreError isn_nil)))))))))⟩, u_InvalidText := fun xC h => (by have e := (PySem.W.mg_of X G h_xa_InvalidText).symm.trans h; cases e; exact ist_cons h_hu_InvalidText_ValueError (ist_cons h_hu_InvalidText_KeyError ist_nil)), e_InvalidWorld := ⟨_, PySem.W.mg_of X G h_xa_InvalidWorld, xcatB_ok (PySem.W.mg_of X G h_xa_InvalidWorld) h_hx_InvalidWorld, h_hn_InvalidWorld, (isn_cons (PySem.W.mg_of X G h_xa_InvalidPlan) h_hi_InvalidWorld_InvalidPlan (isn_cons (PySem.W.mg_of X G h_xa_InvalidText) h_hi_InvalidWorld_InvalidText (isn_cons (PySem.W.mg_of X G h_xa_InvalidWorld) h_hi_InvalidWorld_InvalidWorld (isn_cons (PySem.W.mg_of X G h_xa_InvalidLooks) h_hi_InvalidWorld_InvalidLooks (isn_cons (PySem.W.mg_of X G h_xa_Refused) h_hi_InvalidWorld_Refused (isn_cons (PySem.W.mg_of X G h_xa_InvalidCommand) h_hi_InvalidWorld_InvalidCommand (isn_cons (PySem.W.mg_of X G h_xa_NoWorld) h_hi_InvalidWorld_NoWorld (isn_cons (PySem.W.mg_of X G h_xa_NoName) h_hi_InvalidWorld_NoName (isn_cons (PySem.W.mg_of X G h_xa_BoreError) h_hi_InvalidWorld_BoreError isn_nil)))))))))⟩, u_InvalidWorld := fun xC h => (by have e := (PySem.W.mg_of X G h_xa_InvalidWorld).symm.trans h; cases e; exact ist_cons h_hu_InvalidWorld_ValueError (ist_cons h_hu_InvalidWorld_KeyError ist_nil)), e_NoName := ⟨_, PySem.W.mg_of X G h_xa_NoName, xcatB_ok (PySem.W.mg_of X G h_xa_NoName) h_hx_NoName, h_hn_NoName, (isn_cons (PySem.W.mg_of X G h_xa_InvalidPlan) h_hi_NoName_InvalidPlan (isn_cons (PySem.W.mg_of X G h_xa_InvalidText) h_hi_NoName_InvalidText (isn_cons (PySem.W.mg_of X G h_xa_InvalidWorld) h_hi_NoName_InvalidWorld (isn_cons (PySem.W.mg_of X G h_xa_InvalidLooks) h_hi_NoName_InvalidLooks (isn_cons (PySem.W.mg_of X G h_xa_Refused) h_hi_NoName_Refused (isn_cons (PySem.W.mg_of X G h_xa_InvalidCommand) h_hi_NoName_InvalidCommand (isn_cons (PySem.W.mg_of X G h_xa_NoWorld) h_hi_NoName_NoWorld (isn_cons (PySem.W.mg_of X G h_xa_NoName) h_hi_NoName_NoName (isn_cons (PySem.W.mg_of X G h_xa_BoreError) h_hi_NoName_BoreError isn_nil)))))))))⟩, u_NoName := fun xC h => (by have e := (PySem.W.mg_of X G h_xa_NoName).symm.trans h; cases e; exact ist_cons h_hu_NoName_ValueError (ist_cons h_hu_NoName_KeyError ist_nil)), e_NoWorld := ⟨_, PySem.W.mg_of X G h_xa_NoWorld, xcatB_ok (PySem.W.mg_of X G h_xa_NoWorld) h_hx_NoWorld, h_hn_NoWorld, (isn_cons (PySem.W.mg_of X G h_xa_InvalidPlan) h_hi_NoWorld_InvalidPlan (isn_cons (PySem.W.mg_of X G h_xa_InvalidText) h_hi_NoWorld_InvalidText (isn_cons (PySem.W.mg_of X G h_xa_InvalidWorld) h_hi_NoWorld_InvalidWorld (isn_cons (PySem.W.mg_of X G h_xa_InvalidLooks) h_hi_NoWorld_InvalidLooks (isn_cons (PySem.W.mg_of X G h_xa_Refused) h_hi_NoWorld_Refused (isn_cons (PySem.W.mg_of X G h_xa_InvalidCommand) h_hi_NoWorld_InvalidCommand (isn_cons (PySem.W.mg_of X G h_xa_NoWorld) h_hi_NoWorld_NoWorld (isn_cons (PySem.W.mg_of X G h_xa_NoName) h_hi_NoWorld_NoName (isn_cons (PySem.W.mg_of X G h_xa_BoreError) h_hi_NoWorld_BoreError isn_nil)))))))))⟩, u_NoWorld := fun xC h => (by have e := (PySem.W.mg_of X G h_xa_NoWorld).symm.trans h; cases e; exact ist_cons h_hu_NoWorld_ValueError (ist_cons h_hu_NoWorld_KeyError ist_nil)), e_Refused := ⟨_, PySem.W.mg_of X G h_xa_Refused, xcatB_ok (PySem.W.mg_of X G h_xa_Refused) h_hx_Refused, h_hn_Refused, (isn_cons (PySem.W.mg_of X G h_xa_InvalidPlan) h_hi_Refused_InvalidPlan (isn_cons (PySem.W.mg_of X G h_xa_InvalidText) h_hi_Refused_InvalidText (isn_cons (PySem.W.mg_of X G h_xa_InvalidWorld) h_hi_Refused_InvalidWorld (isn_cons (PySem.W.mg_of X G h_xa_InvalidLooks) h_hi_Refused_InvalidLooks (isn_cons (PySem.W.mg_of X G h_xa_Refused) h_hi_Refused_Refused (isn_cons (PySem.W.mg_of X G h_xa_InvalidCommand) h_hi_Refused_InvalidCommand (isn_cons (PySem.W.mg_of X G h_xa_NoWorld) h_hi_Refused_NoWorld (isn_cons (PySem.W.mg_of X G h_xa_NoName) h_hi_Refused_NoName (isn_cons (PySem.W.mg_of X G h_xa_BoreError) h_hi_Refused_BoreError isn_nil)))))))))⟩, u_Refused := fun xC h => (by have e := (PySem.W.mg_of X G h_xa_Refused).symm.trans h; cases e; exact ist_cons h_hu_Refused_ValueError (ist_cons h_hu_Refused_KeyError ist_nil)), kc_BoreError := ⟨_, PySem.W.mg_of X G h_xa_BoreError⟩, kc_InvalidCommand := ⟨_, PySem.W.mg_of X G h_xa_InvalidCommand⟩, kc_InvalidLooks := ⟨_, PySem.W.mg_of X G h_xa_InvalidLooks⟩, kc_InvalidPlan := ⟨_, PySem.W.mg_of X G h_xa_InvalidPlan⟩, kc_InvalidText := ⟨_, PySem.W.mg_of X G h_xa_InvalidText⟩, kc_InvalidWorld := ⟨_, PySem.W.mg_of X G h_xa_InvalidWorld⟩, kc_NoName := ⟨_, PySem.W.mg_of X G h_xa_NoName⟩, kc_NoWorld := ⟨_, PySem.W.mg_of X G h_xa_NoWorld⟩, kc_Refused := ⟨_, PySem.W.mg_of X G h_xa_Refused⟩ }
  refine ⟨_, ts, fun t ht => ?_, fun s u => .of_eq rfl, fun base _ _ B => ok_law T B FL⟩
  rw [ets] at ht
  cases ht
end FbL
end

section
set_option Elab.async false
set_option maxRecDepth 100000

open PySem PySem.W PyProof.Rows in
set_option maxRecDepth 100000 in
set_option maxHeartbeats 0 in
theorem PySem.Challenge.cw_firstbore_k01_errors_and_what_they_keep_holds : PySem.Challenge.rw_firstbore_k01_errors_and_what_they_keep.Holds := by
  w_on; o_law; k_head; (case hw => w_witness2)
  k_fill
  refine Fb.end_walk [] (l := PySem.Challenge.rw_firstbore_k01_errors_and_what_they_keep) (n := 63) (k := 12) (x := "_law_script") (sem := FbL.sem_law) rfl (by decide) rfl ⟨rfl, by decide, by decide⟩ (fun w h Y => PySem.W.kIn_of Y) (by decide +kernel) ?F FbL.law_true
  case F =>
    intro w mg fa h KX G hmg
    refine' FbL.all_mk KX G hmg ?h_a__law_pick ?h_l__law_pick ?h_c__law_pick ?h_k__law_pick ?h_a__law_any ?h_l__law_any ?h_c__law_any ?h_k__law_any ?h_a__law_deal ?h_l__law_deal ?h_c__law_deal ?h_k__law_deal ?h_a__law_sorts ?h_l__law_sorts ?h_c__law_sorts ?h_k__law_sorts ?h_a__law_draw ?h_l__law_draw ?h_c__law_draw ?h_k__law_draw ?h_a_law ?h_l_law ?h_c_law ?h_k_law ?h_z_cLive ?h_z_cDesk ?h_xa_InvalidCommand ?h_xe_InvalidCommand ?h_xk_InvalidCommand ?h_xs_InvalidCommand ?h_xt_InvalidCommand ?h_xa_NoWorld ?h_xe_NoWorld ?h_xk_NoWorld ?h_xs_NoWorld ?h_xt_NoWorld ?h_xa_BoreError ?h_xa_InvalidLooks ?h_xa_InvalidPlan ?h_xa_InvalidText ?h_xa_InvalidWorld ?h_xa_NoName ?h_xa_Refused ?h_xs_InvalidLooks ?h_xt_InvalidLooks ?h_xs_InvalidPlan ?h_xt_InvalidPlan ?h_xs_InvalidText ?h_xt_InvalidText ?h_xs_InvalidWorld ?h_xt_InvalidWorld ?h_xs_NoName ?h_xt_NoName ?h_xs_Refused ?h_xt_Refused ?h_yi_InvalidLooks ?h_yl_InvalidLooks ?h_yc_InvalidLooks ?h_yf_InvalidLooks ?h_yq_InvalidLooks ?h_yx_InvalidLooks ?h_yi_InvalidPlan ?h_yl_InvalidPlan ?h_yc_InvalidPlan ?h_yf_InvalidPlan ?h_yq_InvalidPlan ?h_yx_InvalidPlan ?h_yi_InvalidText ?h_yl_InvalidText ?h_yc_InvalidText ?h_yf_InvalidText ?h_yq_InvalidText ?h_yx_InvalidText ?h_yi_InvalidWorld ?h_yl_InvalidWorld ?h_yc_InvalidWorld ?h_yf_InvalidWorld ?h_yq_InvalidWorld ?h_yx_InvalidWorld ?h_yi_NoName ?h_yl_NoName ?h_yc_NoName ?h_yf_NoName ?h_yq_NoName ?h_yx_NoName ?h_yi_Refused ?h_yl_Refused ?h_yc_Refused ?h_yf_Refused ?h_yq_Refused ?h_yx_Refused ?h_hx_InvalidCommand ?h_hn_InvalidCommand ?h_hu_InvalidCommand_ValueError ?h_hu_InvalidCommand_KeyError ?h_hi_InvalidCommand_InvalidPlan ?h_hi_InvalidCommand_InvalidText ?h_hi_InvalidCommand_InvalidWorld ?h_hi_InvalidCommand_InvalidLooks ?h_hi_InvalidCommand_Refused ?h_hi_InvalidCommand_InvalidCommand ?h_hi_InvalidCommand_NoWorld ?h_hi_InvalidCommand_NoName ?h_hi_InvalidCommand_BoreError ?h_hx_InvalidLooks ?h_hn_InvalidLooks ?h_hu_InvalidLooks_ValueError ?h_hu_InvalidLooks_KeyError ?h_hi_InvalidLooks_InvalidPlan ?h_hi_InvalidLooks_InvalidText ?h_hi_InvalidLooks_InvalidWorld ?h_hi_InvalidLooks_InvalidLooks ?h_hi_InvalidLooks_Refused ?h_hi_InvalidLooks_InvalidCommand ?h_hi_InvalidLooks_NoWorld ?h_hi_InvalidLooks_NoName ?h_hi_InvalidLooks_BoreError ?h_hx_InvalidPlan ?h_hn_InvalidPlan ?h_hu_InvalidPlan_ValueError ?h_hu_InvalidPlan_KeyError ?h_hi_InvalidPlan_InvalidPlan ?h_hi_InvalidPlan_InvalidText ?h_hi_InvalidPlan_InvalidWorld ?h_hi_InvalidPlan_InvalidLooks ?h_hi_InvalidPlan_Refused ?h_hi_InvalidPlan_InvalidCommand ?h_hi_InvalidPlan_NoWorld ?h_hi_InvalidPlan_NoName ?h_hi_InvalidPlan_BoreError ?h_hx_InvalidText ?h_hn_InvalidText ?h_hu_InvalidText_ValueError ?h_hu_InvalidText_KeyError ?h_hi_InvalidText_InvalidPlan ?h_hi_InvalidText_InvalidText ?h_hi_InvalidText_InvalidWorld ?h_hi_InvalidText_InvalidLooks ?h_hi_InvalidText_Refused ?h_hi_InvalidText_InvalidCommand ?h_hi_InvalidText_NoWorld ?h_hi_InvalidText_NoName ?h_hi_InvalidText_BoreError ?h_hx_InvalidWorld ?h_hn_InvalidWorld ?h_hu_InvalidWorld_ValueError ?h_hu_InvalidWorld_KeyError ?h_hi_InvalidWorld_InvalidPlan ?h_hi_InvalidWorld_InvalidText ?h_hi_InvalidWorld_InvalidWorld ?h_hi_InvalidWorld_InvalidLooks ?h_hi_InvalidWorld_Refused ?h_hi_InvalidWorld_InvalidCommand ?h_hi_InvalidWorld_NoWorld ?h_hi_InvalidWorld_NoName ?h_hi_InvalidWorld_BoreError ?h_hx_NoName ?h_hn_NoName ?h_hu_NoName_ValueError ?h_hu_NoName_KeyError ?h_hi_NoName_InvalidPlan ?h_hi_NoName_InvalidText ?h_hi_NoName_InvalidWorld ?h_hi_NoName_InvalidLooks ?h_hi_NoName_Refused ?h_hi_NoName_InvalidCommand ?h_hi_NoName_NoWorld ?h_hi_NoName_NoName ?h_hi_NoName_BoreError ?h_hx_NoWorld ?h_hn_NoWorld ?h_hu_NoWorld_ValueError ?h_hu_NoWorld_KeyError ?h_hi_NoWorld_InvalidPlan ?h_hi_NoWorld_InvalidText ?h_hi_NoWorld_InvalidWorld ?h_hi_NoWorld_InvalidLooks ?h_hi_NoWorld_Refused ?h_hi_NoWorld_InvalidCommand ?h_hi_NoWorld_NoWorld ?h_hi_NoWorld_NoName ?h_hi_NoWorld_BoreError ?h_hx_Refused ?h_hn_Refused ?h_hu_Refused_ValueError ?h_hu_Refused_KeyError ?h_hi_Refused_InvalidPlan ?h_hi_Refused_InvalidText ?h_hi_Refused_InvalidWorld ?h_hi_Refused_InvalidLooks ?h_hi_Refused_Refused ?h_hi_Refused_InvalidCommand ?h_hi_Refused_NoWorld ?h_hi_Refused_NoName ?h_hi_Refused_BoreError ?h_tq ?h_z_KeyError ?h_z_ValueError ?h_z_abs ?h_z_bool ?h_z_enumerate ?h_z_int ?h_z_isinstance ?h_z_len ?h_z_list ?h_z_range ?h_z_repr ?h_z_str ?h_z_super ?h_z_tuple
    (case h_a__law_pick => k_is)
    (case h_l__law_pick => k_is)
    (case h_c__law_pick => k_is)
    (case h_k__law_pick => k_is)
    (case h_a__law_any => k_is)
    (case h_l__law_any => k_is)
    (case h_c__law_any => k_is)
    (case h_k__law_any => k_is)
    (case h_a__law_deal => k_is)
    (case h_l__law_deal => k_is)
    (case h_c__law_deal => k_is)
    (case h_k__law_deal => k_is)
    (case h_a__law_sorts => k_is)
    (case h_l__law_sorts => k_is)
    (case h_c__law_sorts => k_is)
    (case h_k__law_sorts => k_is)
    (case h_a__law_draw => k_is)
    (case h_l__law_draw => k_is)
    (case h_c__law_draw => k_is)
    (case h_k__law_draw => k_is)
    (case h_a_law => k_is)
    (case h_l_law => k_is)
    (case h_c_law => k_is)
    (case h_k_law => k_is)
    (case h_z_cLive => k_is)
    (case h_z_cDesk => k_is)
    (case h_xa_InvalidCommand => k_is)
    (case h_xe_InvalidCommand => first | k_exc | k_is | decide +kernel)
    (case h_xk_InvalidCommand => k_is)
    (case h_xs_InvalidCommand => k_is)
    (case h_xt_InvalidCommand => k_is)
    (case h_xa_NoWorld => k_is)
    (case h_xe_NoWorld => first | k_exc | k_is | decide +kernel)
    (case h_xk_NoWorld => k_is)
    (case h_xs_NoWorld => k_is)
    (case h_xt_NoWorld => k_is)
    (case h_xa_BoreError => k_is)
    (case h_xa_InvalidLooks => k_is)
    (case h_xa_InvalidPlan => k_is)
    (case h_xa_InvalidText => k_is)
    (case h_xa_InvalidWorld => k_is)
    (case h_xa_NoName => k_is)
    (case h_xa_Refused => k_is)
    (case h_xs_InvalidLooks => k_is)
    (case h_xt_InvalidLooks => k_is)
    (case h_xs_InvalidPlan => k_is)
    (case h_xt_InvalidPlan => k_is)
    (case h_xs_InvalidText => k_is)
    (case h_xt_InvalidText => k_is)
    (case h_xs_InvalidWorld => k_is)
    (case h_xt_InvalidWorld => k_is)
    (case h_xs_NoName => k_is)
    (case h_xt_NoName => k_is)
    (case h_xs_Refused => k_is)
    (case h_xt_Refused => k_is)
    (case h_yi_InvalidLooks => k_is)
    (case h_yl_InvalidLooks => k_is)
    (case h_yc_InvalidLooks => k_is)
    (case h_yf_InvalidLooks => kernel_rfl)
    (case h_yq_InvalidLooks => kernel_rfl)
    (case h_yx_InvalidLooks => kernel_rfl)
    (case h_yi_InvalidPlan => k_is)
    (case h_yl_InvalidPlan => k_is)
    (case h_yc_InvalidPlan => k_is)
    (case h_yf_InvalidPlan => kernel_rfl)
    (case h_yq_InvalidPlan => kernel_rfl)
    (case h_yx_InvalidPlan => kernel_rfl)
    (case h_yi_InvalidText => k_is)
    (case h_yl_InvalidText => k_is)
    (case h_yc_InvalidText => k_is)
    (case h_yf_InvalidText => kernel_rfl)
    (case h_yq_InvalidText => kernel_rfl)
    (case h_yx_InvalidText => kernel_rfl)
    (case h_yi_InvalidWorld => k_is)
    (case h_yl_InvalidWorld => k_is)
    (case h_yc_InvalidWorld => k_is)
    (case h_yf_InvalidWorld => kernel_rfl)
    (case h_yq_InvalidWorld => kernel_rfl)
    (case h_yx_InvalidWorld => kernel_rfl)
    (case h_yi_NoName => k_is)
    (case h_yl_NoName => k_is)
    (case h_yc_NoName => k_is)
    (case h_yf_NoName => kernel_rfl)
    (case h_yq_NoName => kernel_rfl)
    (case h_yx_NoName => kernel_rfl)
    (case h_yi_Refused => k_is)
    (case h_yl_Refused => k_is)
    (case h_yc_Refused => k_is)
    (case h_yf_Refused => kernel_rfl)
    (case h_yq_Refused => kernel_rfl)
    (case h_yx_Refused => kernel_rfl)
    (case h_hx_InvalidCommand => kernel_rfl)
    (case h_hn_InvalidCommand => k_is)
    (case h_hu_InvalidCommand_ValueError => kernel_rfl)
    (case h_hu_InvalidCommand_KeyError => kernel_rfl)
    (case h_hi_InvalidCommand_InvalidPlan => kernel_rfl)
    (case h_hi_InvalidCommand_InvalidText => kernel_rfl)
    (case h_hi_InvalidCommand_InvalidWorld => kernel_rfl)
    (case h_hi_InvalidCommand_InvalidLooks => kernel_rfl)
    (case h_hi_InvalidCommand_Refused => kernel_rfl)
    (case h_hi_InvalidCommand_InvalidCommand => kernel_rfl)
    (case h_hi_InvalidCommand_NoWorld => kernel_rfl)
    (case h_hi_InvalidCommand_NoName => kernel_rfl)
    (case h_hi_InvalidCommand_BoreError => kernel_rfl)
    (case h_hx_InvalidLooks => kernel_rfl)
    (case h_hn_InvalidLooks => k_is)
    (case h_hu_InvalidLooks_ValueError => kernel_rfl)
    (case h_hu_InvalidLooks_KeyError => kernel_rfl)
    (case h_hi_InvalidLooks_InvalidPlan => kernel_rfl)
    (case h_hi_InvalidLooks_InvalidText => kernel_rfl)
    (case h_hi_InvalidLooks_InvalidWorld => kernel_rfl)
    (case h_hi_InvalidLooks_InvalidLooks => kernel_rfl)
    (case h_hi_InvalidLooks_Refused => kernel_rfl)
    (case h_hi_InvalidLooks_InvalidCommand => kernel_rfl)
    (case h_hi_InvalidLooks_NoWorld => kernel_rfl)
    (case h_hi_InvalidLooks_NoName => kernel_rfl)
    (case h_hi_InvalidLooks_BoreError => kernel_rfl)
    (case h_hx_InvalidPlan => kernel_rfl)
    (case h_hn_InvalidPlan => k_is)
    (case h_hu_InvalidPlan_ValueError => kernel_rfl)
    (case h_hu_InvalidPlan_KeyError => kernel_rfl)
    (case h_hi_InvalidPlan_InvalidPlan => kernel_rfl)
    (case h_hi_InvalidPlan_InvalidText => kernel_rfl)
    (case h_hi_InvalidPlan_InvalidWorld => kernel_rfl)
    (case h_hi_InvalidPlan_InvalidLooks => kernel_rfl)
    (case h_hi_InvalidPlan_Refused => kernel_rfl)
    (case h_hi_InvalidPlan_InvalidCommand => kernel_rfl)
    (case h_hi_InvalidPlan_NoWorld => kernel_rfl)
    (case h_hi_InvalidPlan_NoName => kernel_rfl)
    (case h_hi_InvalidPlan_BoreError => kernel_rfl)
    (case h_hx_InvalidText => kernel_rfl)
    (case h_hn_InvalidText => k_is)
    (case h_hu_InvalidText_ValueError => kernel_rfl)
    (case h_hu_InvalidText_KeyError => kernel_rfl)
    (case h_hi_InvalidText_InvalidPlan => kernel_rfl)
    (case h_hi_InvalidText_InvalidText => kernel_rfl)
    (case h_hi_InvalidText_InvalidWorld => kernel_rfl)
    (case h_hi_InvalidText_InvalidLooks => kernel_rfl)
    (case h_hi_InvalidText_Refused => kernel_rfl)
    (case h_hi_InvalidText_InvalidCommand => kernel_rfl)
    (case h_hi_InvalidText_NoWorld => kernel_rfl)
    (case h_hi_InvalidText_NoName => kernel_rfl)
    (case h_hi_InvalidText_BoreError => kernel_rfl)
    (case h_hx_InvalidWorld => kernel_rfl)
    (case h_hn_InvalidWorld => k_is)
    (case h_hu_InvalidWorld_ValueError => kernel_rfl)
    (case h_hu_InvalidWorld_KeyError => kernel_rfl)
    (case h_hi_InvalidWorld_InvalidPlan => kernel_rfl)
    (case h_hi_InvalidWorld_InvalidText => kernel_rfl)
    (case h_hi_InvalidWorld_InvalidWorld => kernel_rfl)
    (case h_hi_InvalidWorld_InvalidLooks => kernel_rfl)
    (case h_hi_InvalidWorld_Refused => kernel_rfl)
    (case h_hi_InvalidWorld_InvalidCommand => kernel_rfl)
    (case h_hi_InvalidWorld_NoWorld => kernel_rfl)
    (case h_hi_InvalidWorld_NoName => kernel_rfl)
    (case h_hi_InvalidWorld_BoreError => kernel_rfl)
    (case h_hx_NoName => kernel_rfl)
    (case h_hn_NoName => k_is)
    (case h_hu_NoName_ValueError => kernel_rfl)
    (case h_hu_NoName_KeyError => kernel_rfl)
    (case h_hi_NoName_InvalidPlan => kernel_rfl)
    (case h_hi_NoName_InvalidText => kernel_rfl)
    (case h_hi_NoName_InvalidWorld => kernel_rfl)
    (case h_hi_NoName_InvalidLooks => kernel_rfl)
    (case h_hi_NoName_Refused => kernel_rfl)
    (case h_hi_NoName_InvalidCommand => kernel_rfl)
    (case h_hi_NoName_NoWorld => kernel_rfl)
    (case h_hi_NoName_NoName => kernel_rfl)
    (case h_hi_NoName_BoreError => kernel_rfl)
    (case h_hx_NoWorld => kernel_rfl)
    (case h_hn_NoWorld => k_is)
    (case h_hu_NoWorld_ValueError => kernel_rfl)
    (case h_hu_NoWorld_KeyError => kernel_rfl)
    (case h_hi_NoWorld_InvalidPlan => kernel_rfl)
    (case h_hi_NoWorld_InvalidText => kernel_rfl)
    (case h_hi_NoWorld_InvalidWorld => kernel_rfl)
    (case h_hi_NoWorld_InvalidLooks => kernel_rfl)
    (case h_hi_NoWorld_Refused => kernel_rfl)
    (case h_hi_NoWorld_InvalidCommand => kernel_rfl)
    (case h_hi_NoWorld_NoWorld => kernel_rfl)
    (case h_hi_NoWorld_NoName => kernel_rfl)
    (case h_hi_NoWorld_BoreError => kernel_rfl)
    (case h_hx_Refused => kernel_rfl)
    (case h_hn_Refused => k_is)
    (case h_hu_Refused_ValueError => kernel_rfl)
    (case h_hu_Refused_KeyError => kernel_rfl)
    (case h_hi_Refused_InvalidPlan => kernel_rfl)
    (case h_hi_Refused_InvalidText => kernel_rfl)
    (case h_hi_Refused_InvalidWorld => kernel_rfl)
    (case h_hi_Refused_InvalidLooks => kernel_rfl)
    (case h_hi_Refused_Refused => kernel_rfl)
    (case h_hi_Refused_InvalidCommand => kernel_rfl)
    (case h_hi_Refused_NoWorld => kernel_rfl)
    (case h_hi_Refused_NoName => kernel_rfl)
    (case h_hi_Refused_BoreError => kernel_rfl)
    (case h_tq => decide +kernel)
    (case h_z_KeyError => k_is)
    (case h_z_ValueError => k_is)
    (case h_z_abs => k_is)
    (case h_z_bool => k_is)
    (case h_z_enumerate => k_is)
    (case h_z_int => k_is)
    (case h_z_isinstance => k_is)
    (case h_z_len => k_is)
    (case h_z_list => k_is)
    (case h_z_range => k_is)
    (case h_z_repr => k_is)
    (case h_z_str => k_is)
    (case h_z_super => k_is)
    (case h_z_tuple => k_is)
end
