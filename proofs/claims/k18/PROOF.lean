import PyProof.Rows.All
import Wide.All
import OpenK.AllK
import Wide.FinOn
import HandS.Base
import HandS.Call
import HandS.List
import HandS.Comp
import HandS.Dict
import HandS.Iter
import HandS.Text
import HandS.Exc
import HandS.Lambda
import HandS.Words
import HandS.Ends
import HandS.WordsExc
import HandS.ClsMeth
import HandS.Deep
import HandS.Wide
import HandS.IsInst
import PyProof.P3In
import HandS.Star
import HandS.Property
import HandS.Style
import HandS.RaiseMore
import HandS.WordsDict
import HandS.More
import KE.SortData
import HandS.DictComp
import HandS.NoneIn
import HandS.Zip0
import PyProof.Draws
import HandS.Defaults
import HandS.EndBits
import HandS.EndTab
import HandS.TupMul
import HandS.ListItems
import HandS.Conv
import PyProof.ReprRoads
import HandS.Zip
import HandS.Nested
import HandS.ForMost
import PySem.Challenge.RW_firstbore_k18_whole_worlds_put_together
section
set_option Elab.async false
set_option linter.all false
set_option maxRecDepth 100000
set_option maxHeartbeats 4000000
/-! Data, and what of it a value stands for. -/
namespace Fb
open PySem PySem.Spec PyProof.Rows L2
abbrev St := L2.St

/-- a function made of a lambda: its address, its code object's and its name, what its captured names hold -/
structure Clo where
  f : Addr
  c : Addr
  q : Str
  ws : List V
/-- data without addresses -/
inductive D where
  | non | bl (b : Bool) | int (i : Int) | str (x : Str)
  | tup (xs : List D) | lst (xs : List D) | dic (kvs : List (Key × D))
  | ins (c : Str) (fs : List (Str × D))
  | box (n : Nat)
  | ty (n : String)
  | cls (c : Str)
  | raw (a : Addr)
  | scr (ns : List Int)
  | clo (k : Clo) (cs : List D)
  deriving Inhabited

/-- the world of a row: its written part, its module's names -/
structure Wd where
  K : PySem.W.Frag
  mg : Str → Option Value
  tabs : List (Addr × Str)
/-- the tables of code objects, each with the name of what stands in it -/
abbrev TabsG (G : Wd) (H : Hp) : Prop := LamX.Tabs G.tabs H
/-- the heap has grown; a table may have one more code object -/
structure Same (G : Wd) (H H' : Hp) : Prop where
  ext : ∀ a o, H a = some o → (∀ ps, o ≠ .tbl ps) → H' a = some o
  fre : ∀ a, H' a = none → H a = none
  tab : TabsG G H → TabsG G H'
theorem Same.of {G : Wd} {H H' : Hp} (s : L2.Same H H') : Same G H H' := ⟨fun a o e _ => s a o e, fun a e => s.free e, fun t => t.ext s⟩
theorem Same.refl {G : Wd} (H : Hp) : Same G H H := .of (L2.Same.refl H)
theorem Same.trans {G : Wd} {H H1 H2 : Hp} (a : Same G H H1) (b : Same G H1 H2) : Same G H H2 := ⟨fun c o e n => b.ext c o (a.ext c o e n) n, fun c e => a.fre c (b.fre c e), fun t => b.tab (a.tab t)⟩
theorem Same.free {G : Wd} {H H' : Hp} (s : Same G H H') {a : Addr} (e : H' a = none) : H a = none := s.fre a e
structure Same1 (G : Wd) (H H' : Hp) : Prop extends Same G H H' where
  tb : TabsG G H'
theorem Same1.trans {G : Wd} {H H1 H2 : Hp} (a : Same1 G H H1) (b : Same G H1 H2) : Same1 G H H2 := ⟨a.toSame.trans b, b.tab a.tb⟩
theorem Same.trans1 {G : Wd} {H H1 H2 : Hp} (a : Same G H H1) (b : Same1 G H1 H2) : Same1 G H H2 := ⟨a.trans b.toSame, b.tb⟩
instance {G : Wd} {H H' : Hp} : CoeOut (Same1 G H H') (Same G H H') := ⟨Same1.toSame⟩
theorem Same.at {G : Wd} {H H' : Hp} (s : Same G H H') {a : Addr} {o : HO} (e : H a = some o) (n : ∀ ps, o ≠ .tbl ps := by exact fun _ z => nomatch z) : H' a = some o := s.ext a o e n

/-- a tuple: tracked, or of the written part -/
def TupAt (K : PySem.W.Frag) (H : Hp) (a : Addr) (xs : List V) : Prop :=
  H a = some (.tup xs) ∨ ∃ (o : Obj) (its : Array Value) (n : Nat), K.lookup a = some o ∧ o.cls = .type "tuple" ∧ o.data = .seq its n ∧ its.size ≤ sizeLine ∧ Vals xs its.toList
/-- the box of draws, a list [cells, number]: what stands at a; at b, its cells -/
def boxA (a b : Addr) : Heap → Prop := fun h => ∃ (m : Int) (its : List Value) (n : Nat), Vals [.ref b, .int m] its ∧ h.get? a = some { cls := .type "list", data := .seq its.toArray n }
def boxB (b : Addr) : Heap → Prop := fun h => ∃ (ns : List Int) (its : List Value) (n : Nat), ns.length ≤ 100 ∧ Vals (ns.map V.int) its ∧ h.get? b = some { cls := .type "list", data := .seq its.toArray n }
/-- a list [number, number] -/
def boxC (a : Addr) : Heap → Prop := fun h => ∃ (i m : Int) (its : List Value) (n : Nat), Vals [.int i, .int m] its ∧ h.get? a = some { cls := .type "list", data := .seq its.toArray n }
def BoxAt (H : Hp) (n : Nat) (a : Addr) : Prop := if n = 0 then ∃ b, a ≠ b ∧ H a = some (.ext (boxA a b)) ∧ H b = some (.ext (boxB b)) else H a = some (.ext (boxC a))
/-- what is loosely known stays known -/
theorem BoxAt.imp {H H' : Hp} {n : Nat} {a : Addr} (h : BoxAt H n a) (k : ∀ b φ, H b = some (.ext φ) → H' b = some (.ext φ)) : BoxAt H' n a := by
  unfold BoxAt at h ⊢
  by_cases e : n = 0
  · rw [if_pos e] at h ⊢
    obtain ⟨b, ne, h1, h2⟩ := h
    exact ⟨b, ne, k _ _ h1, k _ _ h2⟩
  · rw [if_neg e] at h ⊢
    exact k _ _ h
/-- the script: a list of the caller's, or of the written part -/
def ScrAt (K : PySem.W.Frag) (H : Hp) (a : Addr) (ns : List Int) : Prop := (∃ o, H a = some (.frz o (.lst (ns.map V.int)))) ∨
  ∃ (o : Obj) (its : Array Value) (n : Nat), K.lookup a = some o ∧ o.cls = .type "list" ∧ o.dict = none ∧ o.data = .seq its n ∧ its.size ≤ sizeLine ∧ Vals (ns.map V.int) its.toList
theorem ScrAt.sq {K : PySem.W.Frag} {H : Hp} {a : Addr} {ns : List Int} (h : ScrAt K H a ns) : SqL K H a (ns.map V.int) := h.elim (fun ⟨o, e⟩ => .inl (.inr ⟨o, e⟩)) .inr
theorem TupAt.sq {K : PySem.W.Frag} {H : Hp} {a : Addr} {xs : List V} (h : TupAt K H a xs) : SqT K H a xs := h.elim (fun z => .inl (.inl z)) .inr
section
variable (G : Wd) (N : Addr → Prop) (H : Hp)
mutual
/-- v stands for the data in the heap H; N: the addresses that its lists and dicts may have -/
def Rep : D → V → Prop
  | .non, v => v = .non
  | .bl b, v => v = .bl b
  | .int i, v => v = .int i
  | .str x, v => v = .str x
  | .tup ds, v => ∃ a vs, v = .ref a ∧ TupAt G.K H a vs ∧ Reps ds vs
  | .lst ds, v => ∃ a vs, v = .ref a ∧ N a ∧ H a = some (.lst vs) ∧ Reps ds vs
  | .dic kvs, v => ∃ a ks, v = .ref a ∧ N a ∧ Rd H a (.dK ks) ∧ RepK kvs ks
  | .ins c fs, v => ∃ a C dx gs, v = .ref a ∧ G.mg c = some (.ref C) ∧ H a = some (.ins C dx gs) ∧ RepF fs gs
  | .box n, v => ∃ a, v = .ref a ∧ BoxAt H n a
  | .ty n, v => v = .ty n
  | .cls c, v => ∃ C, v = .ref C ∧ G.mg c = some (.ref C)
  | .raw x, v => v = .ref x
  | .scr ns, v => ∃ a, v = .ref a ∧ ScrAt G.K H a ns
  | .clo k cs, v => v = .ref k.f ∧ H k.c = some (LamX.CodeO k.c k.q) ∧ Reps cs k.ws
def Reps : List D → List V → Prop
  | [], vs => vs = []
  | d :: ds, vs => ∃ w ws, vs = w :: ws ∧ Rep d w ∧ Reps ds ws
def RepK : List (Key × D) → List (Key × V) → Prop
  | [], vs => vs = []
  | (k, d) :: ds, vs => ∃ w ws, vs = (k, w) :: ws ∧ Rep d w ∧ RepK ds ws
def RepF : List (Str × D) → List (Str × V) → Prop
  | [], vs => vs = []
  | (k, d) :: ds, vs => ∃ w ws, vs = (k, w) :: ws ∧ Rep d w ∧ RepF ds ws
end
end

/-- the heap has grown; a dict may be locked or unlocked -/
def Le (H H' : Hp) : Prop := ∀ a o, H a = some o → (∀ ps, o ≠ .tbl ps) → H' a = some o ∨ (∃ ks, o = .dK ks ∧ ∃ ob, H' a = some (.frz ob (.dK ks))) ∨ ∃ ob ks, o = .frz ob (.dK ks) ∧ H' a = some (.dK ks)
theorem Le.of {G : Wd} {H H' : Hp} (h : Same G H H') : Le H H' := fun a o e n => .inl (h.ext a o e n)
theorem Le.refl (H : Hp) : Le H H := fun a o e _ => .inl e
theorem Le.rd {H H' : Hp} (h : Le H H') {a : Addr} {u : HO} (hu : ∀ o w, u ≠ .frz o w) (ht : ∀ ps, u ≠ .tbl ps) (r : Rd H a u) : Rd H' a u := by
  rcases r with e | ⟨o, e⟩
  · rcases h a u e ht with q | ⟨ks, rfl, ob, q⟩ | ⟨ob, ks, rfl, q⟩
    · exact .inl q
    · exact .inr ⟨ob, q⟩
    · exact absurd rfl (hu _ _)
  · rcases h a _ e (fun _ z => nomatch z) with q | ⟨ks, z, ob, q⟩ | ⟨ob, ks, z, q⟩
    · exact .inr ⟨_, q⟩
    · cases z
    · cases z; exact .inl q
theorem Le.tupT {K : PySem.W.Frag} {H H' : Hp} (h : Le H H') {a : Addr} {xs : List V} (r : TupAt K H a xs) : TupAt K H' a xs := by
  rcases r with r | r
  · rcases h a _ r (fun _ z => nomatch z) with q | ⟨ks, z, _⟩ | ⟨ob, ks, z, _⟩
    · exact .inl q
    · cases z
    · cases z
  · exact .inr r
theorem Le.ins {H H' : Hp} (h : Le H H') {a C dx : Addr} {fs : List (Str × V)} (r : H a = some (.ins C dx fs)) : H' a = some (.ins C dx fs) := by
  rcases h a _ r (fun _ z => nomatch z) with q | ⟨ks, z, _⟩ | ⟨ob, ks, z, _⟩
  · exact q
  · cases z
  · cases z
theorem Le.lst {H H' : Hp} (h : Le H H') {a : Addr} {xs : List V} (r : H a = some (.lst xs)) : H' a = some (.lst xs) := by
  rcases h a _ r (fun _ z => nomatch z) with q | ⟨ks, z, _⟩ | ⟨ob, ks, z, _⟩
  · exact q
  · cases z
  · cases z
theorem Le.scr {K : PySem.W.Frag} {H H' : Hp} (h : Le H H') {a : Addr} {ns : List Int} (r : ScrAt K H a ns) : ScrAt K H' a ns := by
  rcases r with ⟨o, r⟩ | r
  · rcases h a _ r (fun _ z => nomatch z) with q | ⟨ks, z, _⟩ | ⟨ob, ks, z, _⟩
    · exact .inl ⟨o, q⟩
    · cases z
    · cases z
  · exact .inr r
theorem Le.ext {H H' : Hp} (h : Le H H') {a : Addr} {φ : Heap → Prop} (r : H a = some (.ext φ)) : H' a = some (.ext φ) := by
  rcases h a _ r (fun _ z => nomatch z) with q | ⟨ks, z, _⟩ | ⟨ob, ks, z, _⟩
  · exact q
  · cases z
  · cases z
theorem Rd.some {H : Hp} {a : Addr} {u : HO} (r : Rd H a u) : H a ≠ none := by
  rcases r with e | ⟨o, e⟩ <;> (rw [e]; exact fun z => nomatch z)

section
variable {G : Wd} {N N' : Addr → Prop} {H H' : Hp}
mutual
theorem Rep.mono (hN : ∀ a, N a → H a ≠ none → N' a) (hL : Le H H') : ∀ {d : D} {v : V}, Rep G N H d v → Rep G N' H' d v
  | .non, _, h => h
  | .bl _, _, h => h
  | .int _, _, h => h
  | .str _, _, h => h
  | .tup ds, _, ⟨a, vs, e, q, r⟩ => ⟨a, vs, e, hL.tupT q, Reps.mono hN hL r⟩
  | .lst ds, _, ⟨a, vs, e, n, q, r⟩ => ⟨a, vs, e, hN a n (Rd.some (.inl q)), hL.lst q, Reps.mono hN hL r⟩
  | .dic kvs, _, ⟨a, ks, e, n, q, r⟩ => ⟨a, ks, e, hN a n (Rd.some q), hL.rd (fun _ _ z => by cases z) (fun _ z => by cases z) q, RepK.mono hN hL r⟩
  | .ins c fs, _, ⟨a, C, dx, gs, e, m, q, r⟩ => ⟨a, C, dx, gs, e, m, hL.ins q, RepF.mono hN hL r⟩
  | .box n, _, ⟨a, e, q⟩ => ⟨a, e, q.imp fun _ _ z => hL.ext z⟩
  | .ty _, _, h => h
  | .cls _, _, h => h
  | .raw _, _, h => h
  | .scr _, _, ⟨a, e, q⟩ => ⟨a, e, hL.scr q⟩
  | .clo _ _, _, ⟨e, q, r⟩ => ⟨e, hL.ext q, Reps.mono hN hL r⟩
theorem Reps.mono (hN : ∀ a, N a → H a ≠ none → N' a) (hL : Le H H') : ∀ {ds : List D} {vs : List V}, Reps G N H ds vs → Reps G N' H' ds vs
  | [], _, h => h
  | _ :: _, _, ⟨w, ws, e, r, rs⟩ => ⟨w, ws, e, Rep.mono hN hL r, Reps.mono hN hL rs⟩
theorem RepK.mono (hN : ∀ a, N a → H a ≠ none → N' a) (hL : Le H H') : ∀ {ds : List (Key × D)} {vs : List (Key × V)}, RepK G N H ds vs → RepK G N' H' ds vs
  | [], _, h => h
  | (_, _) :: _, _, ⟨w, ws, e, r, rs⟩ => ⟨w, ws, e, Rep.mono hN hL r, RepK.mono hN hL rs⟩
theorem RepF.mono (hN : ∀ a, N a → H a ≠ none → N' a) (hL : Le H H') : ∀ {ds : List (Str × D)} {vs : List (Str × V)}, RepF G N H ds vs → RepF G N' H' ds vs
  | [], _, h => h
  | (_, _) :: _, _, ⟨w, ws, e, r, rs⟩ => ⟨w, ws, e, Rep.mono hN hL r, RepF.mono hN hL rs⟩
end

abbrev NT : Addr → Prop := fun _ => True
theorem Rep.top {d : D} {v : V} (h : Rep G N H d v) : Rep G NT H d v := h.mono (fun _ _ _ => trivial) (Le.refl H)
theorem Rep.same {d : D} {v : V} (h : Rep G N H d v) (s : Same G H H') : Rep G N H' d v := h.mono (fun _ z _ => z) (Le.of s)
theorem Reps.same {ds : List D} {vs : List V} (h : Reps G N H ds vs) (s : Same G H H') : Reps G N H' ds vs := h.mono (fun _ z _ => z) (Le.of s)
theorem Reps.length : ∀ {ds : List D} {vs : List V}, Reps G N H ds vs → vs.length = ds.length
  | [], _, h => by rw [show _ = [] from h]; rfl
  | _ :: ds, _, ⟨w, ws, e, _, rs⟩ => by rw [e, List.length_cons, List.length_cons, Reps.length rs]
theorem Reps.get : ∀ {ds : List D} {vs : List V} {i : Nat} {v : V}, Reps G N H ds vs → vs[i]? = some v → ∃ d, ds[i]? = some d ∧ Rep G N H d v
  | [], _, i, v, h, e => by rw [show _ = [] from h] at e; simp at e
  | d :: ds, _, 0, v, ⟨w, ws, e, r, _⟩, q => by subst e; simp at q; subst q; exact ⟨d, rfl, r⟩
  | d :: ds, _, i + 1, v, ⟨w, ws, e, _, rs⟩, q => by subst e; exact Reps.get (i := i) rs (by simpa using q)
theorem Reps.get' : ∀ {ds : List D} {vs : List V} {i : Nat} {d : D}, Reps G N H ds vs → ds[i]? = some d → ∃ v, vs[i]? = some v ∧ Rep G N H d v
  | [], _, i, d, h, e => by simp at e
  | d' :: ds, _, 0, d, ⟨w, ws, e, r, _⟩, q => by subst e; simp at q; subst q; exact ⟨w, rfl, r⟩
  | d' :: ds, _, i + 1, d, ⟨w, ws, e, _, rs⟩, q => by
    subst e
    obtain ⟨v, h1, h2⟩ := Reps.get' (i := i) rs (by simpa using q)
    exact ⟨v, by simpa using h1, h2⟩
theorem Reps.app : ∀ {ds es : List D} {vs ws : List V}, Reps G N H ds vs → Reps G N H es ws → Reps G N H (ds ++ es) (vs ++ ws)
  | [], _, _, _, h, h' => by rw [show _ = [] from h]; exact h'
  | _ :: _, _, _, _, ⟨w, ws, e, r, rs⟩, h' => by subst e; exact ⟨w, _, rfl, r, Reps.app rs h'⟩
theorem Reps.one {d : D} {v : V} (r : Rep G N H d v) : Reps G N H [d] [v] := ⟨v, [], rfl, r, rfl⟩
theorem Reps.cons {d : D} {v : V} {ds : List D} {vs : List V} (r : Rep G N H d v) (rs : Reps G N H ds vs) : Reps G N H (d :: ds) (v :: vs) := ⟨v, vs, rfl, r, rs⟩
theorem Reps.cons_inv {d : D} {v : V} {ds : List D} {vs : List V} (h : Reps G N H (d :: ds) (v :: vs)) : Rep G N H d v ∧ Reps G N H ds vs := by
  obtain ⟨w, ws, e, r, rs⟩ := h
  cases e
  exact ⟨r, rs⟩
end

/-! ### programs over data: what must hold so that an end is reached -/
abbrev W (ε α : Type) := (α → Prop) → (ε → Prop) → Prop
namespace W
variable {ε α β : Type}
def ret (a : α) : W ε α := fun Q _ => Q a
def bind (m : W ε α) (k : α → W ε β) : W ε β := fun Q E => m (fun a => k a Q E) E
def fail : W ε α := fun _ _ => False
def raise (e : ε) : W ε α := fun _ E => E e
def all {ι : Type} (p : ι → Prop) (k : ι → W ε α) : W ε α := fun Q E => ∀ i, p i → k i Q E
/-- nothing may be raised -/
def calm (m : W ε α) : W ε α := fun Q _ => m Q fun _ => False
/-- the exceptions by another type -/
def lift {δ : Type} (f : ε → δ) (m : W ε α) : W δ α := fun Q E => m Q fun e => E (f e)
structure Mono (m : W ε α) : Prop where
  run : ∀ {Q Q' : α → Prop} {E E' : ε → Prop}, (∀ a, Q a → Q' a) → (∀ e, E e → E' e) → m Q E → m Q' E'
theorem Mono.ret {a : α} : Mono (ret a : W ε α) := ⟨fun h _ q => h _ q⟩
theorem Mono.bind {m : W ε α} {k : α → W ε β} (hm : Mono m) (hk : ∀ a, Mono (k a)) : Mono (bind m k) := ⟨fun h g q => hm.run (fun a z => (hk a).run h g z) g q⟩
theorem Mono.fail : Mono (fail : W ε α) := ⟨fun _ _ q => q⟩
theorem Mono.raise {e : ε} : Mono (raise e : W ε α) := ⟨fun _ g q => g _ q⟩
theorem Mono.all {ι : Type} {p : ι → Prop} {k : ι → W ε α} (hk : ∀ i, Mono (k i)) : Mono (all p k) := ⟨fun h g q i hi => (hk i).run h g (q i hi)⟩
theorem Mono.calm {m : W ε α} (hm : Mono m) : Mono (calm m) := ⟨fun h _ q => hm.run h (fun _ z => z) q⟩
theorem Mono.lift {δ : Type} {f : ε → δ} {m : W ε α} (hm : Mono m) : Mono (lift f m) := ⟨fun h g q => hm.run h (fun _ z => g _ z) q⟩
end W

/-- an exception of a class with its own fields -/
structure Ex where
  cls : Str
  fs : List (Str × D)

/-- the addresses of N, and new ones -/
def Fr (N : Addr → Prop) (H : Hp) : Addr → Prop := fun a => N a ∨ H a = none
theorem Fr.of {N : Addr → Prop} {H : Hp} {a : Addr} (h : N a) : Fr N H a := .inl h
theorem Fr.step {N : Addr → Prop} {H H1 : Hp} (s : Same G H H1) {a : Addr} (h : Fr N H1 a) : Fr N H a := h.elim .inl fun z => .inr (s.free z)
theorem Fr.fr {N : Addr → Prop} {H H1 : Hp} (s : Same G H H1) {a : Addr} (h : Fr (Fr N H) H1 a) : Fr N H a := h.elim id fun z => .inr (s.free z)

/-- how an exception lies -/
def XRep (G : Wd) (N : Addr → Prop) (H : Hp) (x : Ex) (cls : Value) (dd : Option Addr) : Prop :=
  (G.mg x.cls = some cls ∨ (G.mg x.cls = none ∧ bootBuiltins x.cls = some cls)) ∧ (x.fs = [] ∨ ∃ d gs, dd = some d ∧ H d = some (.xd gs) ∧ RepF G N H x.fs gs)
theorem XRep.mono {G : Wd} {N N' : Addr → Prop} {H : Hp} {x : Ex} {c : Value} {dd : Option Addr} (h : XRep G N H x c dd) (hN : ∀ a, N a → N' a) : XRep G N' H x c dd :=
  ⟨h.1, h.2.elim .inl fun ⟨d, gs, e, q, r⟩ => .inr ⟨d, gs, e, q, r.mono (fun a z _ => hN a z) (Le.refl H)⟩⟩

abbrev Ro := List (Option D)
/-- the slots' data, as an expression sees them -/
structure ERel (G : Wd) (N : Addr → Prop) (H : Hp) (σ : Fb.St) (ρ : Ro) : Prop where
  tab : TabsG G H
  get : ∀ (i : Nat) (d : D), ρ[i]? = some (some d) → ∃ v, σ[i]? = some (some v) ∧ Rep G N H d v
theorem ERel.same {G : Wd} {N : Addr → Prop} {H H' : Hp} {σ : Fb.St} {ρ : Ro} (h : ERel G N H σ ρ) (s : Same G H H') : ERel G N H' σ ρ := ⟨s.tab h.tab, fun i d e =>
  let ⟨v, e', r⟩ := h.get i d e
  ⟨v, e', r.same s⟩⟩
theorem Rep.sub {G : Wd} {N N' : Addr → Prop} {H : Hp} {d : D} {v : V} (h : Rep G N H d v) (hN : ∀ a, N a → N' a) : Rep G N' H d v := h.mono (fun a z _ => hN a z) (Le.refl H)
theorem Reps.sub {G : Wd} {N N' : Addr → Prop} {H : Hp} {d : List D} {v : List V} (h : Reps G N H d v) (hN : ∀ a, N a → N' a) : Reps G N' H d v := h.mono (fun a z _ => hN a z) (Le.refl H)

/-- what is wanted behind an expression -/
def PoE (G : Wd) (N : Addr → Prop) (H : Hp) (Q : VK) (d : D) : Prop := ∀ v H', Same G H H' → Rep G (Fr N H) H' d v → Q v H'
def PoX (G : Wd) (N : Addr → Prop) (Wx : WX) (H : Hp) (σ : Fb.St) (x : Ex) : Prop := ∀ c dd H', Same G H H' → XRep G (Fr N H) H' x c dd → Wx c dd σ H'
theorem PoX.step {G : Wd} {N : Addr → Prop} {Wx : WX} {H H1 : Hp} {σ : Fb.St} {x : Ex} (h : PoX G N Wx H σ x) (s : Same G H H1) : PoX G N Wx H1 σ x := fun c dd H' s' r => h c dd H' (s.trans s') (r.mono fun _ z => z.step s)

def tE (G : Wd) (Wx : WX) (m : Ro → W Ex D) : TE := fun σ H Q => ∃ N ρ, ERel G N H σ ρ ∧ m ρ (PoE G N H Q) (PoX G N Wx H σ)
/-- the expression e means m -/
structure DE (G : Wd) (X : Cx) (Wx : WX) (e : Expr) (m : Ro → W Ex D) : Prop where
  pe : PE X e (tE G Wx m)
  mono : ∀ ρ, W.Mono (m ρ)
def PoT (G : Wd) (H : Hp) (Q : Bool → Hp → Prop) (b : Bool) : Prop := ∀ H', Same G H H' → Q b H'
def tT (G : Wd) (Wx : WX) (m : Ro → W Ex Bool) : TT := fun σ H Q => ∃ N ρ, ERel G N H σ ρ ∧ m ρ (PoT G H Q) (PoX G N Wx H σ)
/-- the test e means m -/
structure DT (G : Wd) (X : Cx) (Wx : WX) (e : Expr) (m : Ro → W Ex Bool) : Prop where
  pt : PT X e (tT G Wx m)
  mono : ∀ ρ, W.Mono (m ρ)
def PoA (G : Wd) (N : Addr → Prop) (H : Hp) (Q : List V → Hp → Prop) (ds : List D) : Prop := ∀ vs H', Same G H H' → Reps G (Fr N H) H' ds vs → Q vs H'
def tA (G : Wd) (Wx : WX) (m : Ro → W Ex (List D)) : TA := fun σ H Q => ∃ N ρ, ERel G N H σ ρ ∧ m ρ (PoA G N H Q) (PoX G N Wx H σ)
/-- the arguments es mean m -/
structure DA (G : Wd) (X : Cx) (Wx : WX) (es : List Expr) (m : Ro → W Ex (List D)) : Prop where
  pa : PA X es (tA G Wx m)
  mono : ∀ ρ, W.Mono (m ρ)
/-- a list or dict that stands alone at a; what is in it lies in N -/
def OwnT (G : Wd) (N : Addr → Prop) (H : Hp) (a : Addr) : D → Prop
  | .lst ds => ∃ vs, H a = some (.lst vs) ∧ Reps G N H ds vs
  | .dic kvs => ∃ ks, H a = some (.dK ks) ∧ RepK G N H kvs ks
  | _ => False
def Fresh (G : Wd) (N : Addr → Prop) (H H' : Hp) (d : D) (v : V) : Prop := ∃ a, v = .ref a ∧ H a = none ∧ OwnT G (fun b => N b ∧ b ≠ a) H' a d
def PoR (G : Wd) (N : Addr → Prop) (H : Hp) (Q : VK) (r : Bool × D) : Prop := ∀ v H', Same G H H' → Rep G (Fr N H) H' r.2 v → (r.1 = true → Fresh G (Fr N H) H H' r.2 v) → Q v H'
def tR (G : Wd) (Wx : WX) (m : Ro → W Ex (Bool × D)) : TE := fun σ H Q => ∃ N ρ, ERel G N H σ ρ ∧ m ρ (PoR G N H Q) (PoX G N Wx H σ)
/-- .. and whether the value is new, nobody's but its holder's -/
structure DR (G : Wd) (X : Cx) (Wx : WX) (e : Expr) (m : Ro → W Ex (Bool × D)) : Prop where
  pe : PE X e (tR G Wx m)
  mono : ∀ ρ, W.Mono (m ρ)

section
variable {G : Wd} {X : Cx} {Wx : WX}
theorem DE.imp {e : Expr} {m : Ro → W Ex D} {t : TE} (mono : ∀ ρ, W.Mono (m ρ)) (h : PE X e t) (i : ∀ N ρ σ H Q, ERel G N H σ ρ → m ρ (PoE G N H Q) (PoX G N Wx H σ) → t σ H Q) : DE G X Wx e m :=
  ⟨⟨fun pins s σ H Q I ⟨N, ρ, r, q⟩ => h.run pins s σ H Q I (i N ρ σ H Q r q)⟩, mono⟩
theorem DT.imp {e : Expr} {m : Ro → W Ex Bool} {t : TT} (mono : ∀ ρ, W.Mono (m ρ)) (h : PT X e t) (i : ∀ N ρ σ H Q, ERel G N H σ ρ → m ρ (PoT G H Q) (PoX G N Wx H σ) → t σ H Q) : DT G X Wx e m :=
  ⟨⟨fun pins s σ H Q I ⟨N, ρ, r, q⟩ => h.run pins s σ H Q I (i N ρ σ H Q r q)⟩, mono⟩
theorem DA.imp {e : List Expr} {m : Ro → W Ex (List D)} {t : TA} (mono : ∀ ρ, W.Mono (m ρ)) (h : PA X e t) (i : ∀ N ρ σ H Q, ERel G N H σ ρ → m ρ (PoA G N H Q) (PoX G N Wx H σ) → t σ H Q) : DA G X Wx e m :=
  ⟨⟨fun pos pins s σ H Q I ⟨N, ρ, r, q⟩ => h.run pos pins s σ H Q I (i N ρ σ H Q r q)⟩, mono⟩
theorem DR.imp {e : Expr} {m : Ro → W Ex (Bool × D)} {t : TE} (mono : ∀ ρ, W.Mono (m ρ)) (h : PE X e t) (i : ∀ N ρ σ H Q, ERel G N H σ ρ → m ρ (PoR G N H Q) (PoX G N Wx H σ) → t σ H Q) : DR G X Wx e m :=
  ⟨⟨fun pins s σ H Q I ⟨N, ρ, r, q⟩ => h.run pins s σ H Q I (i N ρ σ H Q r q)⟩, mono⟩
/-- what comes first is done: go on at the grown heap -/
theorem DE.go {e : Expr} {m : Ro → W Ex D} (h : DE G X Wx e m) {N : Addr → Prop} {ρ : Ro} {σ : Fb.St} {H : Hp} {Q : VK} (r : ERel G N H σ ρ) {P : D → Prop} {E : Ex → Prop} (q : m ρ P E)
    (hE : ∀ x, E x → PoX G N Wx H σ x) (hP : ∀ d v H1, P d → Same G H H1 → Rep G (Fr N H) H1 d v → ERel G N H1 σ ρ → Q v H1) : tE G Wx m σ H Q :=
  ⟨N, ρ, r, (h.mono ρ).run (fun d z v H1 s1 r1 => hP d v H1 z s1 r1 (r.same s1)) hE q⟩
theorem DT.go {e : Expr} {m : Ro → W Ex Bool} (h : DT G X Wx e m) {N : Addr → Prop} {ρ : Ro} {σ : Fb.St} {H : Hp} {Q : Bool → Hp → Prop} (r : ERel G N H σ ρ) {P : Bool → Prop} {E : Ex → Prop} (q : m ρ P E)
    (hE : ∀ x, E x → PoX G N Wx H σ x) (hP : ∀ b H1, P b → Same G H H1 → ERel G N H1 σ ρ → Q b H1) : tT G Wx m σ H Q :=
  ⟨N, ρ, r, (h.mono ρ).run (fun b z H1 s1 => hP b H1 z s1 (r.same s1)) hE q⟩
theorem DA.go {e : List Expr} {m : Ro → W Ex (List D)} (h : DA G X Wx e m) {N : Addr → Prop} {ρ : Ro} {σ : Fb.St} {H : Hp} {Q : List V → Hp → Prop} (r : ERel G N H σ ρ) {P : List D → Prop} {E : Ex → Prop} (q : m ρ P E)
    (hE : ∀ x, E x → PoX G N Wx H σ x) (hP : ∀ d v H1, P d → Same G H H1 → Reps G (Fr N H) H1 d v → ERel G N H1 σ ρ → Q v H1) : tA G Wx m σ H Q :=
  ⟨N, ρ, r, (h.mono ρ).run (fun d z v H1 s1 r1 => hP d v H1 z s1 r1 (r.same s1)) hE q⟩
theorem DR.de {e : Expr} {m : Ro → W Ex (Bool × D)} (h : DR G X Wx e m) : DE G X Wx e (fun ρ => W.bind (m ρ) fun r => W.ret r.2) :=
  DE.imp (fun ρ => (h.mono ρ).bind fun _ => W.Mono.ret) h.pe fun N ρ σ H Q r q => ⟨N, ρ, r, (h.mono ρ).run (fun _ z v H1 s1 r1 _ => z v H1 s1 r1) (fun _ z => z) q⟩
theorem DE.dr {e : Expr} {m : Ro → W Ex D} (h : DE G X Wx e m) : DR G X Wx e (fun ρ => W.bind (m ρ) fun d => W.ret (false, d)) :=
  DR.imp (fun ρ => (h.mono ρ).bind fun _ => W.Mono.ret) h.pe fun N ρ σ H Q r q => ⟨N, ρ, r, (h.mono ρ).run (fun _ z v H1 s1 r1 => z v H1 s1 r1 fun y => nomatch y) (fun _ z => z) q⟩

/-! ### names, constants -/
def gotD : Option (Option D) → W Ex D
  | some (some d) => W.ret d
  | _ => W.fail
theorem gotD_mono (o : Option (Option D)) : W.Mono (gotD o) := by
  rcases o with _ | _ | d
  · exact W.Mono.fail
  · exact W.Mono.fail
  · exact W.Mono.ret
theorem gotD_inv {o : Option (Option D)} {P : D → Prop} {E : Ex → Prop} (h : gotD o P E) : ∃ d, o = some (some d) ∧ P d := by
  rcases o with _ | _ | d
  · exact h.elim
  · exact h.elim
  · exact ⟨d, rfl, h⟩
def mVar (i : Nat) : Ro → W Ex D := fun ρ => gotD ρ[i]?
theorem de_var (i : Nat) {x : Str} {pos : Pos} (h : PE X (.Name x pos) (tVar i)) : DE G X Wx (.Name x pos) (mVar i) := by
  refine DE.imp (fun ρ => gotD_mono _) h fun N ρ σ H Q r q => ?_
  obtain ⟨d, e, q⟩ := gotD_inv q
  obtain ⟨v, e1, r1⟩ := r.get i d e
  exact ⟨v, e1, q v H (Same.refl H) (r1.sub fun _ => Fr.of)⟩
def mC (d : D) : Ro → W Ex D := fun _ => W.ret d
theorem de_const {e : Expr} {v : V} {d : D} (h : PE X e (tC v)) (r : ∀ N H, Rep G N H d v) : DE G X Wx e (mC d) :=
  DE.imp (fun _ => W.Mono.ret) h fun N ρ σ H Q _ q => q v H (Same.refl H) (r _ _)
theorem de_int {i j pos} : DE G X Wx (.Constant (.int i) j pos) (mC (.int i)) := de_const pe_int fun _ _ => rfl
theorem de_bl {i j pos} : DE G X Wx (.Constant (.bool i) j pos) (mC (.bl i)) := de_const pe_bl fun _ _ => rfl
theorem de_non {j pos} : DE G X Wx (.Constant .none j pos) (mC .non) := de_const pe_non fun _ _ => rfl
theorem de_str {i j pos} : DE G X Wx (.Constant (.str i) j pos) (mC (.str i)) := de_const pe_str fun _ _ => rfl

/-! ### arguments -/
def mNil : Ro → W Ex (List D) := fun _ => W.ret []
def mCons (m : Ro → W Ex D) (n : Ro → W Ex (List D)) : Ro → W Ex (List D) := fun ρ => W.bind (m ρ) fun d => W.bind (n ρ) fun ds => W.ret (d :: ds)
theorem da_nil : DA G X Wx [] mNil := DA.imp (fun _ => W.Mono.ret) pa_nil fun N ρ σ H Q _ q => q [] H (Same.refl H) rfl
theorem da_cons {e : Expr} {es : List Expr} {m : Ro → W Ex D} {n : Ro → W Ex (List D)} (h : DE G X Wx e m) (hs : DA G X Wx es n) (st : starEach (e :: es) X.env = (false, eval e X.env) :: starEach es X.env := by rfl) :
    DA G X Wx (e :: es) (mCons m n) := by
  refine DA.imp (fun ρ => (h.mono ρ).bind fun d => (hs.mono ρ).bind fun ds => W.Mono.ret) (pa_cons h.pe hs.pa st) fun N ρ σ H Q r q => ?_
  refine h.go r q (fun x z => z) fun d v H1 z s1 r1 rr => ?_
  refine hs.go rr z (fun x z => z.step s1) fun ds vs H2 z s2 r2 _ => ?_
  exact z (v :: vs) H2 (s1.trans s2) (.cons (r1.same s2) (r2.sub fun _ z => z.step s1))

/-! ### operators, by values -/
/-- g tells what f does on data -/
def DOp (G : Wd) (X : Cx) (r : R2) (g : D → D → W Ex D) : Prop :=
  (∀ a b, W.Mono (g a b)) ∧ ∀ N H a b x y Q, Rep G N H a x → Rep G N H b y → g a b (fun d => ∀ v H', Same G H H' → Rep G (Fr N H) H' d v → Q v H') (fun _ => False) → r x y H Q
def mOp (g : D → D → W Ex D) (m n : Ro → W Ex D) : Ro → W Ex D := fun ρ => W.bind (m ρ) fun a => W.bind (n ρ) fun b => W.calm (g a b)
theorem op_two {a b : Expr} {m n : Ro → W Ex D} {r : R2} {g : D → D → W Ex D} (hg : DOp G X r g) (ha : DE G X Wx a m) (hb : DE G X Wx b n) {N : Addr → Prop} {ρ : Ro} {σ : Fb.St} {H : Hp} {Q : VK} (rr : ERel G N H σ ρ)
    (q : mOp g m n ρ (PoE G N H Q) (PoX G N Wx H σ)) : tOp r (tE G Wx m) (tE G Wx n) σ H Q := by
  refine ha.go rr q (fun x z => z) fun d v H1 z s1 r1 rr1 => ?_
  refine hb.go rr1 z (fun x z => z.step s1) fun e u H2 z s2 r2 rr2 => ?_
  refine hg.2 (Fr N H) H2 d e v u Q (r1.same s2) (r2.sub fun _ z => z.step s1) ?_
  exact (hg.1 d e).run (fun d z v H' s r => z v H' ((s1.trans s2).trans s) (r.sub fun _ y => y.fr (s1.trans s2))) (fun _ z => z) z
theorem mOp_mono {a b : Expr} {m n : Ro → W Ex D} {r : R2} {g : D → D → W Ex D} (hg : DOp G X r g) (ha : DE G X Wx a m) (hb : DE G X Wx b n) (ρ : Ro) : W.Mono (mOp g m n ρ) :=
  (ha.mono ρ).bind fun d => (hb.mono ρ).bind fun e => (hg.1 d e).calm
theorem de_op {op : Operator} {a b : Expr} {m n : Ro → W Ex D} {r : R2} {g : D → D → W Ex D} {pos : Pos} (ho : OpR X (binaryOp op) r) (hg : DOp G X r g) (ha : DE G X Wx a m) (hb : DE G X Wx b n) : DE G X Wx (.BinOp a op b pos) (mOp g m n) :=
  DE.imp (mOp_mono hg ha hb) (pe_op ho ha.pe hb.pe) fun N ρ σ H Q rr q => op_two hg ha hb rr q
theorem de_cmp {op : CmpOp} {a b : Expr} {m n : Ro → W Ex D} {r : R2} {g : D → D → W Ex D} {pos : Pos} (ho : OpR X (compareOp op) r) (hg : DOp G X r g) (ha : DE G X Wx a m) (hb : DE G X Wx b n) (hm : behindInMarks op b = false) : DE G X Wx (.Compare a [op] [b] pos) (mOp g m n) :=
  DE.imp (mOp_mono hg ha hb) (pe_cmpR ho ha.pe hb.pe hm) fun N ρ σ H Q rr q => op_two hg ha hb rr q
end
end Fb
end

section
set_option Elab.async false
set_option linter.all false
set_option maxRecDepth 100000
set_option maxHeartbeats 4000000
/-! Statements over data; which slots hold a list or dict alone. -/
namespace Fb
open PySem PySem.Spec PyProof.Rows L2

/-- what can be changed -/
def isM : HO → Prop
  | .lst _ => True
  | .dK _ => True
  | _ => False

mutual
/-- nothing that can be changed is in it -/
def imm : D → Bool
  | .tup xs => imms xs
  | .lst _ => false
  | .dic _ => false
  | .ins _ fs => immF fs
  | .non => true
  | .bl _ => true
  | .int _ => true
  | .str _ => true
  | .box _ => true
  | .ty _ => true
  | .cls _ => true
  | .raw _ => true
  | .scr _ => true
  | .clo _ cs => imms cs
def imms : List D → Bool
  | [] => true
  | x :: xs => imm x && imms xs
def immF : List (Str × D) → Bool
  | [] => true
  | (_, x) :: xs => imm x && immF xs
end
def immK : List (Key × D) → Bool
  | [] => true
  | (_, x) :: xs => imm x && immK xs
/-- what is in a list or dict can't be changed -/
def immTop : D → Bool
  | .lst ds => imms ds
  | .dic kvs => immK kvs
  | d => imm d
section
variable {G : Wd} {N N' : Addr → Prop} {H : Hp}
theorem and_l {a b : Bool} (h : (a && b) = true) : a = true := (Bool.and_eq_true_iff.mp h).1
theorem and_r {a b : Bool} (h : (a && b) = true) : b = true := (Bool.and_eq_true_iff.mp h).2
mutual
theorem Rep.imm : ∀ {d : D} {v : V}, imm d = true → Rep G N H d v → Rep G N' H d v
  | .non, _, _, h => h
  | .bl _, _, _, h => h
  | .int _, _, _, h => h
  | .str _, _, _, h => h
  | .tup ds, _, i, ⟨a, vs, e, q, r⟩ => ⟨a, vs, e, q, Reps.imm (by simpa [Fb.imm] using i) r⟩
  | .lst ds, _, i, _ => by simp [Fb.imm] at i
  | .dic kvs, _, i, _ => by simp [Fb.imm] at i
  | .ins c fs, _, i, ⟨a, C, dx, gs, e, m, q, r⟩ => ⟨a, C, dx, gs, e, m, q, RepF.imm (by simpa [Fb.imm] using i) r⟩
  | .box n, _, _, h => h
  | .ty n, _, _, h => h
  | .cls n, _, _, h => h
  | .raw n, _, _, h => h
  | .scr n, _, _, h => h
  | .clo _ cs, _, i, ⟨e, q, r⟩ => ⟨e, q, Reps.imm (by simpa [Fb.imm] using i) r⟩
theorem Reps.imm : ∀ {ds : List D} {vs : List V}, imms ds = true → Reps G N H ds vs → Reps G N' H ds vs
  | [], _, _, h => h
  | _ :: _, _, i, ⟨w, ws, e, r, rs⟩ => ⟨w, ws, e, Rep.imm (and_l (by simpa [imms] using i)) r, Reps.imm (and_r (by simpa [imms] using i)) rs⟩
theorem RepF.imm : ∀ {ds : List (Str × D)} {vs : List (Str × V)}, immF ds = true → RepF G N H ds vs → RepF G N' H ds vs
  | [], _, _, h => h
  | (_, _) :: _, _, i, ⟨w, ws, e, r, rs⟩ => ⟨w, ws, e, Rep.imm (and_l (by simpa [immF] using i)) r, RepF.imm (and_r (by simpa [immF] using i)) rs⟩
end
theorem RepK.imm : ∀ {ds : List (Key × D)} {vs : List (Key × V)}, immK ds = true → RepK G N H ds vs → RepK G N' H ds vs
  | [], _, _, h => h
  | (_, _) :: _, _, i, ⟨w, ws, e, r, rs⟩ => ⟨w, ws, e, Rep.imm (and_l (by simpa [immK] using i)) r, RepK.imm (and_r (by simpa [immK] using i)) rs⟩
theorem OwnT.mono {H' : Hp} {a : Addr} {d : D} (hN : ∀ b, N b → H b ≠ none → N' b) (hs : Same G H H') (h : OwnT G N H a d) : OwnT G N' H' a d := by
  cases d with
  | lst ds => obtain ⟨vs, e, r⟩ := h; exact ⟨vs, hs.at e, r.mono hN (Le.of hs)⟩
  | dic ds => obtain ⟨vs, e, r⟩ := h; exact ⟨vs, hs.at e, RepK.mono hN (Le.of hs) r⟩
  | _ => exact h.elim
theorem OwnT.imm {a : Addr} {d : D} (i : immTop d = true) (h : OwnT G N H a d) : OwnT G N' H a d := by
  cases d with
  | lst ds => obtain ⟨vs, e, r⟩ := h; exact ⟨vs, e, Reps.imm i r⟩
  | dic ds => obtain ⟨vs, e, r⟩ := h; exact ⟨vs, e, RepK.imm i r⟩
  | _ => exact h.elim
theorem OwnT.some {a : Addr} {d : D} (h : OwnT G N H a d) : H a ≠ none := by
  cases d with
  | lst ds => obtain ⟨vs, e, r⟩ := h; rw [e]; exact fun z => nomatch z
  | dic ds => obtain ⟨vs, e, r⟩ := h; rw [e]; exact fun z => nomatch z
  | _ => exact h.elim
theorem OwnT.kind {a : Addr} {d : D} (h : OwnT G N H a d) : ∃ o, H a = Option.some o ∧ isM o := by
  cases d with
  | lst ds => obtain ⟨vs, e, r⟩ := h; exact ⟨_, e, trivial⟩
  | dic ds => obtain ⟨vs, e, r⟩ := h; exact ⟨_, e, trivial⟩
  | _ => exact h.elim
theorem OwnT.rep {a : Addr} {d : D} (ha : N a) (h : OwnT G N H a d) : Rep G N H d (.ref a) := by
  cases d with
  | lst ds => obtain ⟨vs, e, r⟩ := h; exact ⟨a, vs, rfl, ha, e, r⟩
  | dic ds => obtain ⟨vs, e, r⟩ := h; exact ⟨a, vs, rfl, ha, .inl e, r⟩
  | _ => exact h.elim
end

abbrev En := List (Option (Bool × D))
def seeFrom (fz : List Nat) : Nat → En → Ro
  | _, [] => []
  | i, none :: r => none :: seeFrom fz (i + 1) r
  | i, some (b, d) :: r => (if b && !(fz.contains i) then none else some d) :: seeFrom fz (i + 1) r
/-- what an expression sees: slots that are not held alone, and those at fz -/
def see (fz : List Nat) (ρ : En) : Ro := seeFrom fz 0 ρ
def frzFrom (fz : List Nat) : Nat → En → En
  | _, [] => []
  | i, none :: r => none :: frzFrom fz (i + 1) r
  | i, some (b, d) :: r => some (b && !(fz.contains i), d) :: frzFrom fz (i + 1) r
/-- those at fz are held alone no more -/
def frz (fz : List Nat) (ρ : En) : En := frzFrom fz 0 ρ
def roFrom : En → Ro
  | [] => []
  | none :: r => none :: roFrom r
  | some (_, d) :: r => some d :: roFrom r
/-- all slots -/
def ro (ρ : En) : Ro := roFrom ρ
theorem seeFrom_at {fz : List Nat} : ∀ {ρ : En} {k i : Nat} {d : D}, (seeFrom fz k ρ)[i]? = some (some d) → ∃ b, ρ[i]? = some (some (b, d)) ∧ (b = false ∨ k + i ∈ fz)
  | [], _, _, _, h => by simp [seeFrom] at h
  | none :: r, k, 0, d, h => by simp [seeFrom] at h
  | some (b, d') :: r, k, 0, d, h => by
    simp only [seeFrom, List.getElem?_cons_zero, Option.some.injEq] at h
    split at h
    · cases h
    · rename_i q
      cases h
      refine ⟨b, rfl, ?_⟩
      cases b with
      | false => exact .inl rfl
      | true =>
        refine .inr ?_
        simpa using q
  | none :: r, k, i + 1, d, h => by
    obtain ⟨b, e, q⟩ := seeFrom_at (ρ := r) (k := k + 1) (i := i) (by simpa [seeFrom] using h)
    exact ⟨b, by simpa using e, by rwa [Nat.add_assoc, Nat.add_comm 1 i] at q⟩
  | some (b', d') :: r, k, i + 1, d, h => by
    obtain ⟨b, e, q⟩ := seeFrom_at (ρ := r) (k := k + 1) (i := i) (by simpa [seeFrom] using h)
    exact ⟨b, by simpa using e, by rwa [Nat.add_assoc, Nat.add_comm 1 i] at q⟩
theorem see_at {fz : List Nat} {ρ : En} {i : Nat} {d : D} (h : (see fz ρ)[i]? = some (some d)) : ∃ b, ρ[i]? = some (some (b, d)) ∧ (b = false ∨ i ∈ fz) := by
  obtain ⟨b, e, q⟩ := seeFrom_at h
  exact ⟨b, e, by rwa [Nat.zero_add] at q⟩
theorem frzFrom_at {fz : List Nat} : ∀ {ρ : En} {k i : Nat} {b : Bool} {d : D}, (frzFrom fz k ρ)[i]? = some (some (b, d)) → ∃ b', ρ[i]? = some (some (b', d)) ∧ b = (b' && !(fz.contains (k + i)))
  | [], _, _, _, _, h => by simp [frzFrom] at h
  | none :: r, k, 0, b, d, h => by simp [frzFrom] at h
  | some (b', d') :: r, k, 0, b, d, h => by
    simp only [frzFrom, List.getElem?_cons_zero, Option.some.injEq, Prod.mk.injEq] at h
    exact ⟨b', by simp [h.2], h.1.symm⟩
  | none :: r, k, i + 1, b, d, h => by
    obtain ⟨b', e, q⟩ := frzFrom_at (ρ := r) (k := k + 1) (i := i) (by simpa [frzFrom] using h)
    exact ⟨b', by simpa using e, by rwa [Nat.add_assoc, Nat.add_comm 1 i] at q⟩
  | some (b'', d') :: r, k, i + 1, b, d, h => by
    obtain ⟨b', e, q⟩ := frzFrom_at (ρ := r) (k := k + 1) (i := i) (by simpa [frzFrom] using h)
    exact ⟨b', by simpa using e, by rwa [Nat.add_assoc, Nat.add_comm 1 i] at q⟩
theorem frz_at {fz : List Nat} {ρ : En} {i : Nat} {b : Bool} {d : D} (h : (frz fz ρ)[i]? = some (some (b, d))) : ∃ b', ρ[i]? = some (some (b', d)) ∧ b = (b' && !(fz.contains i)) := by
  obtain ⟨b', e, q⟩ := frzFrom_at h
  exact ⟨b', e, by rwa [Nat.zero_add] at q⟩
theorem frzFrom_len {fz : List Nat} : ∀ {ρ : En} {k : Nat}, (frzFrom fz k ρ).length = ρ.length
  | [], _ => rfl
  | none :: r, k => congrArg (· + 1) (frzFrom_len (ρ := r) (k := k + 1))
  | some _ :: r, k => congrArg (· + 1) (frzFrom_len (ρ := r) (k := k + 1))
theorem frz_len {fz : List Nat} {ρ : En} : (frz fz ρ).length = ρ.length := frzFrom_len
theorem roFrom_at : ∀ {ρ : En} {i : Nat} {d : D}, (roFrom ρ)[i]? = some (some d) → ∃ b, ρ[i]? = some (some (b, d))
  | [], _, _, h => by simp [roFrom] at h
  | none :: r, 0, d, h => by simp [roFrom] at h
  | some (b, d') :: r, 0, d, h => by
    simp only [roFrom, List.getElem?_cons_zero, Option.some.injEq] at h
    exact ⟨b, by simp [h]⟩
  | none :: r, i + 1, d, h => roFrom_at (ρ := r) (i := i) (by simpa [roFrom] using h)
  | some (b', d') :: r, i + 1, d, h => roFrom_at (ρ := r) (i := i) (by simpa [roFrom] using h)

/-- not among the addresses that are held alone -/
def Out (N0 : Addr → Prop) (H0 : Hp) (S : Nat → Option Addr) : Addr → Prop := fun a => Fr N0 H0 a ∧ ∀ j, S j ≠ some a
structure OwnOk (G : Wd) (H0 : Hp) (N0 : Addr → Prop) (S : Nat → Option Addr) (σ : Fb.St) (H : Hp) (ρ : En) : Prop where
  new : ∀ (i : Nat) (a : Addr), S i = some a → H0 a = none ∧ H a ≠ none
  kind : ∀ (i : Nat) (a : Addr), S i = some a → ∃ o, H a = some o ∧ isM o
  inj : ∀ (i j : Nat) (a : Addr), S i = some a → S j = some a → i = j
  shr : ∀ (i : Nat) (d : D), ρ[i]? = some (some (false, d)) → ∃ v, σ[i]? = some (some v) ∧ Rep G (Out N0 H0 S) H d v
  own : ∀ (i : Nat) (d : D), ρ[i]? = some (some (true, d)) → ∃ a, σ[i]? = some (some (.ref a)) ∧ S i = some a ∧ OwnT G (Out N0 H0 S) H a d
/-- the slots' data as a statement knows them; H0: what stands still -/
structure SRel (G : Wd) (H0 : Hp) (N0 : Addr → Prop) (σ : Fb.St) (H : Hp) (ρ : En) : Prop where
  same : Same1 G H0 H
  len : ρ.length = σ.length
  own : ∃ S, OwnOk G H0 N0 S σ H ρ

section
variable {G : Wd} {H0 H H1 : Hp} {N0 : Addr → Prop} {S : Nat → Option Addr} {σ : Fb.St} {ρ : En}
def cut (fz : List Nat) (S : Nat → Option Addr) : Nat → Option Addr := fun i => if fz.contains i then none else S i
theorem cut_some {fz : List Nat} {S : Nat → Option Addr} {i : Nat} {a : Addr} (h : cut fz S i = some a) : S i = some a ∧ i ∉ fz := by
  unfold cut at h
  split at h
  · cases h
  · rename_i q
    exact ⟨h, by simpa using q⟩
theorem Out.cut {fz : List Nat} {a : Addr} (h : Out N0 H0 S a) : Out N0 H0 (cut fz S) a := ⟨h.1, fun j z => h.2 j (cut_some z).1⟩
theorem OwnOk.sees (o : OwnOk G H0 N0 S σ H ρ) (tb : TabsG G H) (fz : List Nat) : ERel G (Out N0 H0 (cut fz S)) H σ (see fz ρ) := ⟨tb, fun i d e => by
  obtain ⟨b, e, q⟩ := see_at e
  cases b with
  | false =>
    obtain ⟨v, e1, r⟩ := o.shr i d e
    exact ⟨v, e1, r.sub fun _ => Out.cut⟩
  | true =>
    have hi : i ∈ fz := q.elim (fun z => nomatch z) id
    obtain ⟨a, e1, e2, r⟩ := o.own i d e
    refine ⟨_, e1, (r.mono (fun b z _ => Out.cut z) (Same.refl H)).rep ⟨.inr (o.new i a e2).1, fun j z => ?_⟩⟩
    obtain ⟨z1, z2⟩ := cut_some z
    exact z2 (o.inj i j a e2 z1 ▸ hi)⟩
theorem Out.fr {a : Addr} (h : Out N0 H0 S a) : Fr N0 H0 a := h.1
theorem SRel.ro (s : SRel G H0 N0 σ H ρ) : ERel G (Fr N0 H0) H σ (ro ρ) := ⟨s.same.tb, fun i d e => by
  obtain ⟨S, o⟩ := s.own
  obtain ⟨b, e⟩ := roFrom_at e
  cases b with
  | false =>
    obtain ⟨v, e1, r⟩ := o.shr i d e
    exact ⟨v, e1, r.sub fun _ => Out.fr⟩
  | true =>
    obtain ⟨a, e1, e2, r⟩ := o.own i d e
    exact ⟨_, e1, (r.mono (fun b z _ => Out.fr z) (Same.refl H)).rep (.inr (o.new i a e2).1)⟩⟩
theorem OwnOk.same (o : OwnOk G H0 N0 S σ H ρ) (s : Same G H H1) : OwnOk G H0 N0 S σ H1 ρ where
  new := fun i a e => ⟨(o.new i a e).1, fun z => (o.new i a e).2 (s.free z)⟩
  kind := fun i a e => let ⟨u, h, k⟩ := o.kind i a e; ⟨u, s.at h (fun ps z => by subst z; exact k), k⟩
  inj := o.inj
  shr := fun i d e => let ⟨v, e1, r⟩ := o.shr i d e; ⟨v, e1, r.same s⟩
  own := fun i d e => let ⟨a, e1, e2, r⟩ := o.own i d e; ⟨a, e1, e2, r.mono (fun _ z _ => z) s⟩
theorem SRel.step (x : SRel G H0 N0 σ H ρ) (s : Same G H H1) : SRel G H0 N0 σ H1 ρ :=
  ⟨x.same.trans s, x.len, let ⟨S, o⟩ := x.own; ⟨S, o.same s⟩⟩
/-- those at fz are held alone no more -/
theorem OwnOk.frz (o : OwnOk G H0 N0 S σ H ρ) (fz : List Nat) : OwnOk G H0 N0 (cut fz S) σ H (frz fz ρ) where
  new := fun i a e => o.new i a (cut_some e).1
  kind := fun i a e => o.kind i a (cut_some e).1
  inj := fun i j a e1 e2 => o.inj i j a (cut_some e1).1 (cut_some e2).1
  shr := fun i d e => by
    obtain ⟨b', e, q⟩ := frz_at e
    cases b' with
    | false =>
      obtain ⟨v, e1, r⟩ := o.shr i d e
      exact ⟨v, e1, r.sub fun _ => Out.cut⟩
    | true =>
      have hi : i ∈ fz := by simpa using q
      obtain ⟨a, e1, e2, r⟩ := o.own i d e
      refine ⟨_, e1, (r.mono (fun b z _ => Out.cut z) (Same.refl H)).rep ⟨.inr (o.new i a e2).1, fun j z => ?_⟩⟩
      obtain ⟨z1, z2⟩ := cut_some z
      exact z2 (o.inj i j a e2 z1 ▸ hi)
  own := fun i d e => by
    obtain ⟨b', e, q⟩ := frz_at e
    cases b' with
    | false => cases q
    | true =>
      have hi : i ∉ fz := by simpa using q
      obtain ⟨a, e1, e2, r⟩ := o.own i d e
      refine ⟨a, e1, ?_, r.mono (fun b z _ => Out.cut z) (Same.refl H)⟩
      unfold Fb.cut
      rw [if_neg (by simpa using hi)]
      exact e2
theorem SRel.frz (x : SRel G H0 N0 σ H ρ) (fz : List Nat) : SRel G H0 N0 σ H (frz fz ρ) :=
  ⟨x.same, frz_len.trans x.len, let ⟨S, o⟩ := x.own; ⟨_, o.frz fz⟩⟩
/-- S with another address at i -/
def put (S : Nat → Option Addr) (i : Nat) (o : Option Addr) : Nat → Option Addr := fun j => if j = i then o else S j
theorem put_some {i j : Nat} {o : Option Addr} {a : Addr} (h : put S i o j = some a) : (j = i ∧ o = some a) ∨ (j ≠ i ∧ S j = some a) := by
  unfold put at h
  split at h
  · exact .inl ⟨by assumption, h⟩
  · exact .inr ⟨by assumption, h⟩
/-- a value that is not held alone is stored at i -/
theorem OwnOk.setS (o : OwnOk G H0 N0 S σ H ρ) {i : Nat} {d : D} {v : V} (hl : ρ.length = σ.length) (r : Rep G (Out N0 H0 S) H d v) : OwnOk G H0 N0 (put S i none) (σ.set i (some v)) H (ρ.set i (some (false, d))) where
  new := fun j a e => by
    rcases put_some e with ⟨_, z⟩ | ⟨_, z⟩
    · cases z
    · exact o.new j a z
  kind := fun j a e => by
    rcases put_some e with ⟨_, z⟩ | ⟨_, z⟩
    · cases z
    · exact o.kind j a z
  inj := fun j k a e1 e2 => by
    rcases put_some e1 with ⟨_, z⟩ | ⟨_, z⟩
    · cases z
    · rcases put_some e2 with ⟨_, y⟩ | ⟨_, y⟩
      · cases y
      · exact o.inj j k a z y
  shr := fun j d' e => by
    have sub : ∀ a, Out N0 H0 S a → Out N0 H0 (put S i none) a := fun a h => ⟨h.1, fun k z => by
      rcases put_some z with ⟨_, y⟩ | ⟨_, y⟩
      · cases y
      · exact h.2 k y⟩
    by_cases q : j = i
    · subst q
      have hj : j < ρ.length := by
        have := (List.getElem?_eq_some_iff.mp e).1
        simpa using this
      rw [List.getElem?_set_self hj] at e
      cases e
      exact ⟨v, by rw [List.getElem?_set_self (by omega)], r.sub sub⟩
    · rw [List.getElem?_set_ne (Ne.symm q)] at e
      obtain ⟨u, e1, r1⟩ := o.shr j d' e
      exact ⟨u, by rw [List.getElem?_set_ne (Ne.symm q)]; exact e1, r1.sub sub⟩
  own := fun j d' e => by
    by_cases q : j = i
    · subst q
      have hj : j < ρ.length := by
        have := (List.getElem?_eq_some_iff.mp e).1
        simpa using this
      rw [List.getElem?_set_self hj] at e
      cases e
    · rw [List.getElem?_set_ne (Ne.symm q)] at e
      obtain ⟨a, e1, e2, r1⟩ := o.own j d' e
      refine ⟨a, by rw [List.getElem?_set_ne (Ne.symm q)]; exact e1, by unfold put; rw [if_neg q]; exact e2, r1.mono (fun a h _ => ⟨h.1, fun k z => ?_⟩) (Same.refl H)⟩
      rcases put_some z with ⟨_, y⟩ | ⟨_, y⟩
      · cases y
      · exact h.2 k y
/-- the slots behind a store of r at i, r reckoned from the slots at fz -/
def asg (fz : List Nat) (i : Nat) (r : Bool × D) (ρ : En) : En :=
  (if (if r.1 then immTop r.2 else imm r.2) then ρ else frz fz ρ).set i (some r)
theorem OwnOk.stored (o : OwnOk G H0 N0 S σ H ρ) (fz : List Nat) {i : Nat} {r : Bool × D} {v : V} (h0 : Same G H0 H) (hl : ρ.length = σ.length) (s : Same G H H1)
    (q : Rep G (Fr (Out N0 H0 (cut fz S)) H) H1 r.2 v) (f : r.1 = true → Fresh G (Fr (Out N0 H0 (cut fz S)) H) H H1 r.2 v) : ∃ S', OwnOk G H0 N0 S' (σ.set i (some v)) H1 (asg fz i r ρ) := by
  obtain ⟨b, d⟩ := r
  have o1 := o.same s
  -- what is new, or lies out
  have out : ∀ {S' : Nat → Option Addr}, (∀ j a, S' j = some a → H a ≠ none) → ∀ c, Fr (Out N0 H0 S') H c → Out N0 H0 S' c := fun hS' c hc =>
    hc.elim id fun z => ⟨.inr (h0.free z), fun j w => hS' j c w z⟩
  have hS : ∀ j a, S j = some a → H a ≠ none := fun j a e => (o.new j a e).2
  have hC : ∀ j a, cut fz S j = some a → H a ≠ none := fun j a e => hS j a (cut_some e).1
  cases b with
  | false =>
    by_cases hi : imm d = true
    · refine ⟨put S i none, ?_⟩
      rw [show asg fz i (false, d) ρ = ρ.set i (some (false, d)) from (by unfold asg; simp [hi])]
      exact o1.setS hl (Rep.imm hi q)
    · refine ⟨put (cut fz S) i none, ?_⟩
      rw [show asg fz i (false, d) ρ = (Fb.frz fz ρ).set i (some (false, d)) from (by unfold asg; simp [hi])]
      exact (o1.frz fz).setS (frz_len.trans hl) (q.sub (out hC))
  | true =>
    obtain ⟨a, ev, ha, w⟩ := f rfl
    subst ev
    have an : ∀ {S' : Nat → Option Addr}, (∀ j a, S' j = some a → H a ≠ none) → ∀ j, S' j ≠ some a := fun hS' j z => hS' j a z ha
    -- what stood ahead is apart from a
    have old : ∀ {d : D} {v : V} {N : Addr → Prop}, Rep G N H d v → Rep G (fun b => N b ∧ b ≠ a) H1 d v := fun r => r.mono (fun b z y => ⟨z, fun e => y (e ▸ ha)⟩) (Le.of s)
    have oldO : ∀ {d : D} {b : Addr} {N : Addr → Prop}, OwnT G N H b d → OwnT G (fun c => N c ∧ c ≠ a) H1 b d := fun r => r.mono (fun b z y => ⟨z, fun e => y (e ▸ ha)⟩) s
    -- setO wants it of what o1 says: rebuild from o
    have go : ∀ {S' : Nat → Option Addr} {ρ' : En}, OwnOk G H0 N0 S' σ H ρ' → ρ'.length = σ.length → (∀ j a, S' j = some a → H a ≠ none) → OwnT G (fun b => Out N0 H0 S' b ∧ b ≠ a) H1 a d → OwnOk G H0 N0 (put S' i (some a)) (σ.set i (some (.ref a))) H1 (ρ'.set i (some (true, d))) := fun {S' ρ'} o' hl' hS' w' => by
      have sub : ∀ b, (Out N0 H0 S' b ∧ b ≠ a) → Out N0 H0 (put S' i (some a)) b := fun b h => ⟨h.1.1, fun k z => by
        rcases put_some z with ⟨_, y⟩ | ⟨_, y⟩
        · cases y; exact h.2 rfl
        · exact h.1.2 k y⟩
      refine ⟨fun j b e => ?_, fun j b e => ?_, fun j k b e1 e2 => ?_, fun j d' e => ?_, fun j d' e => ?_⟩
      · rcases put_some e with ⟨_, z⟩ | ⟨_, z⟩
        · cases z; exact ⟨h0.free ha, w'.some⟩
        · exact ⟨(o'.new j b z).1, fun y => (o'.new j b z).2 (s.free y)⟩
      · rcases put_some e with ⟨_, z⟩ | ⟨_, z⟩
        · cases z; exact w'.kind
        · obtain ⟨u, h, k⟩ := o'.kind j b z
          exact ⟨u, s.at h (fun ps z => by subst z; exact k), k⟩
      · rcases put_some e1 with ⟨x, z⟩ | ⟨x, z⟩
        · rcases put_some e2 with ⟨y, w⟩ | ⟨y, w⟩
          · exact x.trans y.symm
          · cases z; exact absurd w (an hS' k)
        · rcases put_some e2 with ⟨y, w⟩ | ⟨y, w⟩
          · cases w; exact absurd z (an hS' j)
          · exact o'.inj j k b z w
      · by_cases q : j = i
        · subst q
          have hj : j < ρ'.length := by
            have := (List.getElem?_eq_some_iff.mp e).1
            simpa using this
          rw [List.getElem?_set_self hj] at e
          cases e
        · rw [List.getElem?_set_ne (Ne.symm q)] at e
          obtain ⟨u, e1, r1⟩ := o'.shr j d' e
          exact ⟨u, by rw [List.getElem?_set_ne (Ne.symm q)]; exact e1, (old r1).sub sub⟩
      · by_cases q : j = i
        · subst q
          have hj : j < ρ'.length := by
            have := (List.getElem?_eq_some_iff.mp e).1
            simpa using this
          rw [List.getElem?_set_self hj] at e
          cases e
          exact ⟨a, by rw [List.getElem?_set_self (by omega)], by unfold put; rw [if_pos rfl], w'.mono (fun b z _ => sub b z) (Same.refl H1)⟩
        · rw [List.getElem?_set_ne (Ne.symm q)] at e
          obtain ⟨b, e1, e2, r1⟩ := o'.own j d' e
          exact ⟨b, by rw [List.getElem?_set_ne (Ne.symm q)]; exact e1, by unfold put; rw [if_neg q]; exact e2, (oldO r1).mono (fun b z _ => sub b z) (Same.refl H1)⟩
    by_cases hi : immTop d = true
    · refine ⟨put S i (some a), ?_⟩
      rw [show asg fz i (true, d) ρ = ρ.set i (some (true, d)) from (by unfold asg; simp [hi])]
      exact go o hl hS (OwnT.imm hi w)
    · refine ⟨put (cut fz S) i (some a), ?_⟩
      rw [show asg fz i (true, d) ρ = (Fb.frz fz ρ).set i (some (true, d)) from (by unfold asg; simp [hi])]
      exact go (o.frz fz) (frz_len.trans hl) hC (w.mono (fun b z _ => ⟨out hC b z.1, z.2⟩) (Same.refl H1))
theorem asg_len {fz : List Nat} {i : Nat} {r : Bool × D} : (asg fz i r ρ).length = ρ.length := by
  unfold asg
  rw [List.length_set]
  by_cases h : (if r.1 then immTop r.2 else imm r.2) = true
  · rw [if_pos h]
  · rw [if_neg h, frz_len]
end
end Fb
end

section
set_option Elab.async false
set_option linter.all false
set_option maxRecDepth 100000
set_option maxHeartbeats 4000000
/-! The judgement of statements; blocks, stores, tests, loops. -/
namespace Fb
open PySem PySem.Spec PyProof.Rows L2

/-- how a statement ends -/
inductive Fl where
  | nx | bk | ct | rt (r : Bool × D)
abbrev WS := W (Ex × En) (Fl × En)
/-- an expression's program within a statement's: what is raised is raised at these slots -/
def up {α : Type} (ρ : En) (m : W Ex α) : W (Ex × En) α := W.lift (fun x => (x, ρ)) m

def PoS (G : Wd) (H0 : Hp) (N0 : Addr → Prop) (D' : Ends) : Fl × En → Prop
  | (.nx, ρ) => ∀ σ H, SRel G H0 N0 σ H ρ → D'.nx σ H
  | (.bk, ρ) => ∀ σ H, SRel G H0 N0 σ H ρ → D'.bk σ H
  | (.ct, ρ) => ∀ σ H, SRel G H0 N0 σ H ρ → D'.ct σ H
  | (.rt r, _) => ∀ v H, Same G H0 H → Rep G (Fr N0 H0) H r.2 v → (r.1 = true → Fresh G (Fr N0 H0) H0 H r.2 v) → D'.rt v H
def PoXS (G : Wd) (H0 : Hp) (N0 : Addr → Prop) (Wx : WX) (p : Ex × En) : Prop := ∀ σ c dd H, SRel G H0 N0 σ H p.2 → XRep G (Fr N0 H0) H p.1 c dd → Wx c dd σ H
def tS (G : Wd) (Wx : WX) (m : En → WS) : TS := fun D' σ H => ∃ H0 N0 ρ, SRel G H0 N0 σ H ρ ∧ m ρ (PoS G H0 N0 D') (PoXS G H0 N0 Wx)
structure DS (G : Wd) (X : Cx) (Wx : WX) (st : Stmt) (m : En → WS) : Prop where
  ps : PS X st (tS G Wx m)
  mono : ∀ ρ, W.Mono (m ρ)
structure DSs (G : Wd) (X : Cx) (Wx : WX) (st : List Stmt) (m : En → WS) : Prop where
  ps : PSs X st (tS G Wx m)
  mono : ∀ ρ, W.Mono (m ρ)

section
variable {G : Wd} {X : Cx} {Wx : WX}
theorem DS.imp {st : Stmt} {m : En → WS} {t : TS} (mono : ∀ ρ, W.Mono (m ρ)) (h : PS X st t) (i : ∀ H0 N0 ρ σ H D', SRel G H0 N0 σ H ρ → m ρ (PoS G H0 N0 D') (PoXS G H0 N0 Wx) → t D' σ H) : DS G X Wx st m :=
  ⟨⟨fun pins s σ H D' I ⟨H0, N0, ρ, r, q⟩ => h.run pins s σ H D' I (i H0 N0 ρ σ H D' r q)⟩, mono⟩
theorem DSs.imp {st : List Stmt} {m : En → WS} {t : TS} (mono : ∀ ρ, W.Mono (m ρ)) (h : PSs X st t) (i : ∀ H0 N0 ρ σ H D', SRel G H0 N0 σ H ρ → m ρ (PoS G H0 N0 D') (PoXS G H0 N0 Wx) → t D' σ H) : DSs G X Wx st m :=
  ⟨⟨fun pins s σ H D' I ⟨H0, N0, ρ, r, q⟩ => h.run pins s σ H D' I (i H0 N0 ρ σ H D' r q)⟩, mono⟩
theorem Mono.up {α : Type} {m : W Ex α} {ρ : En} (h : W.Mono m) : W.Mono (up ρ m) := W.Mono.lift h

/-! ### expressions within statements -/
section
variable {H0 : Hp} {N0 : Addr → Prop} {σ : Fb.St} {H : Hp} {ρ : En}
theorem Fr.out {S : Nat → Option Addr} {a : Addr} (h0 : Same1 G H0 H) (h : Fr (Out N0 H0 S) H a) : Fr N0 H0 a := h.elim (fun z => z.1) fun z => .inr (h0.free z)
/-- the value of e, seen with fz, its holder unknown as yet -/
theorem DE.inS {e : Expr} {m : Ro → W Ex D} (h : DE G X Wx e m) (x : SRel G H0 N0 σ H ρ) {Q : VK} {P : D → Prop} (q : up ρ (m (ro ρ)) P (PoXS G H0 N0 Wx))
    (hP : ∀ d v H1, P d → SRel G H0 N0 σ H1 ρ → Same G H H1 → Rep G (Fr N0 H0) H1 d v → Q v H1) : tE G Wx m σ H Q := by
  refine h.go x.ro q (fun y z => ?_) fun d v H1 z s r _ => hP d v H1 z (x.step s) s (r.sub fun _ y => y.elim id fun w => .inr (x.same.free w))
  intro c dd H' s r
  exact z σ c dd H' (x.step s) (r.mono fun _ y => y.elim id fun w => .inr (x.same.free w))
theorem DT.inS {e : Expr} {m : Ro → W Ex Bool} (h : DT G X Wx e m) (x : SRel G H0 N0 σ H ρ) {Q : Bool → Hp → Prop} {P : Bool → Prop} (q : up ρ (m (ro ρ)) P (PoXS G H0 N0 Wx))
    (hP : ∀ b H1, P b → SRel G H0 N0 σ H1 ρ → Same G H H1 → Q b H1) : tT G Wx m σ H Q := by
  refine h.go x.ro q (fun y z => ?_) fun b H1 z s _ => hP b H1 z (x.step s) s
  intro c dd H' s r
  exact z σ c dd H' (x.step s) (r.mono fun _ y => y.elim id fun w => .inr (x.same.free w))
/-- .. to be stored, returned -/
theorem DR.inS {e : Expr} {m : Ro → W Ex (Bool × D)} (h : DR G X Wx e m) {S : Nat → Option Addr} (h0 : Same1 G H0 H) (hl : ρ.length = σ.length) (o : OwnOk G H0 N0 S σ H ρ) (fz : List Nat) {Q : VK} {P : Bool × D → Prop} (q : up ρ (m (see fz ρ)) P (PoXS G H0 N0 Wx))
    (hP : ∀ r v H1, P r → Same G H H1 → Rep G (Fr (Out N0 H0 (cut fz S)) H) H1 r.2 v → (r.1 = true → Fresh G (Fr (Out N0 H0 (cut fz S)) H) H H1 r.2 v) → Q v H1) : tR G Wx m σ H Q := by
  refine ⟨_, _, o.sees h0.tb fz, (h.mono _).run (fun r z v H1 s1 r1 f1 => hP r v H1 z s1 r1 f1) (fun x z => ?_) q⟩
  intro c dd H' s r
  exact z σ c dd H' ⟨h0.trans s, hl, _, o.same s⟩ (r.mono fun _ y => y.out h0)
end

/-! ### blocks -/
def mSkip : En → WS := fun ρ => W.ret (.nx, ρ)
def andThen (n : En → WS) (p : Fl × En) : WS := match p.1 with
  | .nx => n p.2
  | _ => W.ret p
def mSeq (m n : En → WS) : En → WS := fun ρ => W.bind (m ρ) (andThen n)
theorem andThen_mono {n : En → WS} (h : ∀ ρ, W.Mono (n ρ)) (p : Fl × En) : W.Mono (andThen n p) := by
  obtain ⟨f, ρ⟩ := p
  cases f with
  | nx => exact h ρ
  | _ => exact W.Mono.ret
theorem dss_nil : DSs G X Wx [] mSkip := DSs.imp (fun _ => W.Mono.ret) pss_nil fun H0 N0 ρ σ H D' r q => q σ H r
theorem dss_cons {st : Stmt} {sts : List Stmt} {m n : En → WS} (h : DS G X Wx st m) (hs : DSs G X Wx sts n) : DSs G X Wx (st :: sts) (mSeq m n) := by
  refine DSs.imp (fun ρ => (h.mono ρ).bind fun p => andThen_mono hs.mono p) (pss_cons h.ps hs.ps) fun H0 N0 ρ σ H D' r q => ?_
  refine ⟨H0, N0, ρ, r, (h.mono ρ).run (fun p z => ?_) (fun _ z => z) q⟩
  obtain ⟨f, ρ'⟩ := p
  cases f with
  | nx => exact fun σ' H' r' => ⟨H0, N0, ρ', r', z⟩
  | bk => exact z
  | ct => exact z
  | rt r => exact z
theorem dss_one {st : Stmt} {m : En → WS} (h : DS G X Wx st m) : DSs G X Wx [st] m := ⟨pss_one h.ps, h.mono⟩

/-! ### small statements -/
theorem ds_pass {pos : Pos} : DS G X Wx (.Pass pos) mSkip := DS.imp (fun _ => W.Mono.ret) ps_pass fun H0 N0 ρ σ H D' r q => q σ H r
def mBreak : En → WS := fun ρ => W.ret (.bk, ρ)
def mCont : En → WS := fun ρ => W.ret (.ct, ρ)
theorem ds_break {pos : Pos} : DS G X Wx (.Break pos) mBreak := DS.imp (fun _ => W.Mono.ret) ps_break fun H0 N0 ρ σ H D' r q => q σ H r
theorem ds_continue {pos : Pos} : DS G X Wx (.Continue pos) mCont := DS.imp (fun _ => W.Mono.ret) ps_continue fun H0 N0 ρ σ H D' r q => q σ H r
/-- x = e -/
def mSet (fz : List Nat) (i : Nat) (m : Ro → W Ex (Bool × D)) : En → WS := fun ρ => W.bind (up ρ (m (see fz ρ))) fun r => W.ret (.nx, asg fz i r ρ)
theorem ds_set {i : Nat} {x : Str} {e : Expr} {m : Ro → W Ex (Bool × D)} {pos pos' : Pos} (fz : List Nat) (h : DR G X Wx e m) (hN : X.N.Nodup) (hi : X.N[i]? = some x) (hx : Loc X.env.scope x) (hs : swapsWith e (some (.Name x pos')) pos.line X.env = pure false := by rfl)
    (hf : X.fn x = true ∨ X.env.scope.names.lookup x = some .local := by first | exact .inl rfl | exact .inr rfl | assumption) : DS G X Wx (.Assign [.Name x pos'] e pos) (mSet fz i m) := by
  refine DS.imp (fun ρ => (Mono.up (h.mono _)).bind fun _ => W.Mono.ret) (ps_set hN hi hx h.pe hs hf) fun H0 N0 ρ σ H D' r q => ?_
  obtain ⟨S, o⟩ := r.own
  refine h.inS r.same r.len o fz q fun p v H1 z s1 r1 f1 => z _ _ ⟨r.same.trans s1, ?_, o.stored fz r.same r.len s1 r1 f1⟩
  rw [asg_len, List.length_set]
  exact r.len
/-- return e -/
def mRet (m : Ro → W Ex (Bool × D)) : En → WS := fun ρ => W.bind (up ρ (m (ro ρ))) fun r => W.ret (.rt r, ρ)
theorem ds_ret {e : Expr} {m : Ro → W Ex (Bool × D)} {pos : Pos} (h : DR G X Wx e m) : DS G X Wx (.Return (some e) pos) (mRet m) := by
  refine DS.imp (fun ρ => (Mono.up (h.mono _)).bind fun _ => W.Mono.ret) (ps_ret h.pe) fun H0 N0 ρ σ H D' r q => ?_
  have sub : ∀ a, Fr (Fr N0 H0) H a → Fr N0 H0 a := fun a y => y.elim id fun w => .inr (r.same.free w)
  refine ⟨_, _, r.ro, (h.mono _).run (fun p z v H1 s1 r1 f1 => ?_) (fun x z => ?_) q⟩
  · refine z v H1 (r.same.trans s1) (r1.sub sub) fun w => ?_
    obtain ⟨a, e1, e2, e3⟩ := f1 w
    exact ⟨a, e1, r.same.free e2, e3.mono (fun b y _ => ⟨sub b y.1, y.2⟩) (Same.refl H1)⟩
  · intro c dd H' s1 r1
    exact z σ c dd H' (r.step s1) (r1.mono sub)
/-- return x, a slot: held alone by the frame that ends -/
def holdOf : Option (Option (Bool × D)) → WS → (Bool × D → WS) → WS
  | some (some r), _, k => k r
  | _, n, _ => n
def mRetV (i : Nat) : En → WS := fun ρ => holdOf ρ[i]? W.fail fun r => W.ret (.rt r, ρ)
theorem ds_retv (i : Nat) {x : Str} {pos pos' : Pos} (h : PE X (.Name x pos') (tVar i)) : DS G X Wx (.Return (some (.Name x pos')) pos) (mRetV i) := by
  refine DS.imp (fun ρ => ?_) (ps_ret h) fun H0 N0 ρ σ H D' r q => ?_
  · unfold mRetV
    rcases ρ[i]? with _ | _ | p
    · exact W.Mono.fail
    · exact W.Mono.fail
    · exact W.Mono.ret
  · revert q
    unfold mRetV
    intro q
    rcases e : ρ[i]? with _ | _ | ⟨b, d⟩
    · rw [e] at q; exact q.elim
    · rw [e] at q; exact q.elim
    · rw [e] at q
      obtain ⟨S, o⟩ := r.own
      cases b with
      | false =>
        obtain ⟨v, e1, r1⟩ := o.shr i d e
        exact ⟨v, e1, q v H r.same (r1.sub fun _ z => z.1) fun z => nomatch z⟩
      | true =>
        obtain ⟨a, e1, e2, r1⟩ := o.own i d e
        have r2 : OwnT G (Fr N0 H0) H a d := r1.mono (fun _ z _ => z.1) (Same.refl H)
        refine ⟨_, e1, q (.ref a) H r.same (r2.rep (.inr (o.new i a e2).1)) fun _ => ⟨a, rfl, (o.new i a e2).1, r1.mono (fun b z _ => ⟨z.1, fun w => z.2 i (w ▸ e2)⟩) (Same.refl H)⟩⟩
def mRetN : En → WS := fun ρ => W.ret (.rt (false, .non), ρ)
theorem ds_retn {pos : Pos} : DS G X Wx (.Return none pos) mRetN := DS.imp (fun _ => W.Mono.ret) ps_retN fun H0 N0 ρ σ H D' r q => q .non H r.same rfl fun z => nomatch z
/-- e -/
def mDrop (m : Ro → W Ex D) : En → WS := fun ρ => W.bind (up ρ (m (ro ρ))) fun _ => W.ret (.nx, ρ)
theorem ds_expr {e : Expr} {m : Ro → W Ex D} {pos : Pos} (h : DE G X Wx e m) (hs : swapsWith e none pos.line X.env = pure false := by rfl) : DS G X Wx (.Expr e pos) (mDrop m) :=
  DS.imp (fun ρ => (Mono.up (h.mono _)).bind fun _ => W.Mono.ret) (ps_expr h.pe hs) fun H0 N0 ρ σ H D' r q =>
    h.inS r q fun d v H1 z r1 _ _ => z _ _ r1
/-- if -/
def mIf (c : Ro → W Ex Bool) (m n : En → WS) : En → WS := fun ρ => W.bind (up ρ (c (ro ρ))) fun b => if b = true then m ρ else n ρ
theorem ite_mono {c : Prop} [Decidable c] {ε α : Type} {m n : W ε α} (h1 : W.Mono m) (h2 : W.Mono n) : W.Mono (if c then m else n) := by
  split
  · exact h1
  · exact h2
theorem ds_if {c : Expr} {a b : List Stmt} {mc : Ro → W Ex Bool} {m n : En → WS} {pos : Pos} (hc : DT G X Wx c mc) (ha : DSs G X Wx a m) (hb : DSs G X Wx b n) : DS G X Wx (.If c a b pos) (mIf mc m n) := by
  refine DS.imp (fun ρ => (Mono.up (hc.mono _)).bind fun b => ite_mono (ha.mono ρ) (hb.mono ρ)) (ps_if hc.pt ha.ps hb.ps) fun H0 N0 ρ σ H D' r q => ?_
  refine hc.inS r q fun t H1 z r1 _ => ?_
  cases t with
  | true => exact ⟨H0, N0, ρ, r1, z⟩
  | false => exact ⟨H0, N0, ρ, r1, z⟩

/-! ### while -/
def whileN (c : Ro → W Ex Bool) (b : En → WS) : Nat → En → WS
  | 0, _ => W.fail
  | n + 1, ρ => W.bind (up ρ (c (ro ρ))) fun t => if t = true then W.bind (b ρ) fun p => match p with
      | (.nx, ρ') => whileN c b n ρ'
      | (.ct, ρ') => whileN c b n ρ'
      | (.bk, ρ') => W.ret (.nx, ρ')
      | (.rt r, ρ') => W.ret (.rt r, ρ')
    else W.ret (.nx, ρ)
def mWhile (c : Ro → W Ex Bool) (b : En → WS) : En → WS := fun ρ Q E => ∃ n, whileN c b n ρ Q E
theorem whileN_mono {c : Ro → W Ex Bool} {b : En → WS} (hc : ∀ ρ, W.Mono (c ρ)) (hb : ∀ ρ, W.Mono (b ρ)) : ∀ n ρ, W.Mono (whileN c b n ρ)
  | 0, _ => W.Mono.fail
  | n + 1, ρ => (Mono.up (hc _)).bind fun t => ite_mono ((hb ρ).bind fun p => by
      obtain ⟨f, ρ'⟩ := p
      cases f with
      | nx => exact whileN_mono hc hb n ρ'
      | ct => exact whileN_mono hc hb n ρ'
      | bk => exact W.Mono.ret
      | rt r => exact W.Mono.ret) W.Mono.ret
theorem ds_while {c : Expr} {body : List Stmt} {mc : Ro → W Ex Bool} {m : En → WS} {pos : Pos} (hp : PassesOwn (model X.prog X.w) X.A X.env X.xe) (hc : DT G X Wx c mc) (hb : DSs G X Wx body m) : DS G X Wx (.While c body [] pos) (mWhile mc m) := by
  refine DS.imp (fun ρ => ⟨fun h g ⟨n, q⟩ => ⟨n, (whileN_mono hc.mono hb.mono n ρ).run h g q⟩⟩) (ps_while hp hc.pt hb.ps) fun H0 N0 ρ σ H D' r q => ?_
  obtain ⟨n, q⟩ := q
  refine ⟨fun k σ H => ∃ ρ, SRel G H0 N0 σ H ρ ∧ whileN mc m k ρ (PoS G H0 N0 D') (PoXS G H0 N0 Wx), ⟨n, ρ, r, q⟩, ?_⟩
  rintro k σ1 H1 ⟨ρ1, r1, q1⟩
  cases k with
  | zero => exact q1.elim
  | succ k =>
    refine hc.inS r1 q1 fun t H2 z r2 _ => ?_
    cases t with
    | true =>
      refine ⟨fun σ' H' => ∃ ρ, SRel G H0 N0 σ' H' ρ ∧ whileN mc m k ρ (PoS G H0 N0 D') (PoXS G H0 N0 Wx), fun σ' H' w => ⟨k, Nat.lt_succ_self k, w⟩, H0, N0, ρ1, r2, (hb.mono ρ1).run (fun p y => ?_) (fun _ y => y) z⟩
      obtain ⟨f, ρ'⟩ := p
      cases f with
      | nx => exact fun σ' H' r' => ⟨ρ', r', y⟩
      | ct => exact fun σ' H' r' => ⟨ρ', r', y⟩
      | bk => exact fun σ' H' r' => y σ' H' r'
      | rt r => exact y
    | false => exact z _ _ r2
end
end Fb
end

section
set_option Elab.async false
set_option linter.all false
set_option maxRecDepth 100000
set_option maxHeartbeats 4000000
/-! Defs of a row as programs over data; their calls. -/
namespace Fb
open PySem PySem.Spec PyProof.Rows L2

abbrev Rt := W Ex (Bool × D)
/-- the def at f, called with values that stand for ds, does what sem says of ds -/
structure FnD (P : Program) (w : World) (G : Wd) (base : Heap) (k : Nat) (f : Addr) (fd : FuncData) (ps : List Str) (sem : List D → Rt) : Prop where
  run : ∀ (A : Around) (outer : List Env) (s : Shared) (H : Hp) (args : Args) (us : List Value) (vs : List V) (ds : List D) (N : Addr → Prop) (Q : VK) (E : XK), Room k A → A.guards = some [] → Env0 P w G.K G.mg base A outer s H → TabsG G H →
    BindsTo s fd args (ps.zip us) → Vals vs us → Reps G N H ds vs → vs.length = ps.length →
    sem ds (PoR G N H Q) (fun x => ∀ c dd H', Same G H H' → XRep G (Fr N H) H' x c dd → E c dd H') → codeAny (model P w) A (.call (.ref f) args) (CR (CX P w) outer P w H s Q E) s
  mono : ∀ ds, W.Mono (sem ds)
theorem FnD.up {P : Program} {w : World} {G : Wd} {base : Heap} {j k : Nat} {f : Addr} {fd : FuncData} {ps : List Str} {sem : List D → Rt} (F : FnD P w G base j f fd ps sem) (h : j ≤ k) : FnD P w G base k f fd ps sem :=
  ⟨fun A outer s H args us vs ds N Q E hr => F.run A outer s H args us vs ds N Q E (hr.mono h), F.mono⟩

/-- where a body runs -/
structure Cz (P : Program) (w : World) (G : Wd) (base : Heap) (k : Nat) (X : Cx) (Wx : WX) : Prop where
  P : X.prog = P
  w : X.w = w
  K : X.K = G.K
  mg : X.mg = G.mg
  base : X.base = base
  room : Room k X.A
  gd : X.A.guards = some []
  tk : Takes X Wx

/-! ### a body -/
def initEn (n : Nat) (ds : List D) : En := ds.map (fun d => some (false, d)) ++ List.replicate (n - ds.length) none
def runBody (n : Nat) (b : En → WS) : List D → Rt := fun ds Q E => b (initEn n ds) (fun p => match p.1 with
  | .nx => Q (false, .non)
  | .rt r => Q r
  | _ => False) (fun p => E p.1)
theorem runBody_mono {n : Nat} {b : En → WS} (h : ∀ ρ, W.Mono (b ρ)) (ds : List D) : W.Mono (runBody n b ds) := ⟨fun hq he q => (h _).run (fun p z => by
  obtain ⟨f, ρ⟩ := p
  cases f with
  | nx => exact hq _ z
  | rt r => exact hq _ z
  | bk => exact z
  | ct => exact z) (fun p z => he _ z) q⟩
theorem initEn_at {n i : Nat} {ds : List D} {b : Bool} {d : D} (h : (initEn n ds)[i]? = some (some (b, d))) : b = false ∧ ds[i]? = some d := by
  unfold initEn at h
  rw [List.getElem?_append] at h
  split at h
  · rw [List.getElem?_map] at h
    rcases e : ds[i]? with _ | d'
    · rw [e] at h; cases h
    · rw [e] at h; cases h; exact ⟨rfl, rfl⟩
  · rw [List.getElem?_replicate] at h
    split at h <;> cases h
theorem start_at {N : List Str} {vs : List V} {i : Nat} {v : V} (h : vs[i]? = some v) : (L2.start N vs)[i]? = some (some v) := by
  unfold L2.start
  rw [List.getElem?_append_left (by rw [List.length_map]; exact (List.getElem?_eq_some_iff.mp h).1), List.getElem?_map, h]
  rfl
theorem SRel.start {G : Wd} {N : Addr → Prop} {H : Hp} {ds : List D} {vs : List V} {Ns : List Str} (tb : TabsG G H) (r : Reps G N H ds vs) (hl : vs.length ≤ Ns.length) : SRel G H N (L2.start Ns vs) H (initEn Ns.length ds) := by
  refine ⟨⟨Same.refl H, tb⟩, ?_, fun _ => none, ⟨fun _ _ e => (nomatch e), fun _ _ e => (nomatch e), fun _ _ _ e => (nomatch e), fun i d e => ?_, fun i d e => ?_⟩⟩
  · unfold initEn L2.start
    rw [List.length_append, List.length_append, List.length_map, List.length_map, List.length_replicate, List.length_replicate, r.length]
  · obtain ⟨_, e⟩ := initEn_at e
    obtain ⟨v, e1, r1⟩ := Reps.get' r e
    exact ⟨v, start_at e1, r1.sub fun a z => ⟨.inl z, fun _ y => nomatch y⟩⟩
  · exact nomatch (initEn_at e).1
/-- the context of a def's body -/
abbrev cxD (P : Program) (w : World) (G : Wd) (base : Heap) (Ns : List Str) (qual : Str) (sc : Scope) (f : Addr) (cdv : Value) (A : Around) (outer : List Env) (s : Shared) (H : Hp) (E : XK) : Cx :=
  cxOf (L2.CX P w) P w G.K G.mg base Ns qual sc f cdv A outer s H E
abbrev wxD (E : XK) : WX := fun c d _ H => E c d H
/-- THE RULE: a def by its body -/
theorem fnd_of {P : Program} {w : World} {G : Wd} {base : Heap} {k : Nat} {f : Addr} {x qual : Str} {st : Stmt} {dV kV doc pm cdv ct oc : Value} {an od : Option Addr} {osl : Array (Option Value)} {Ns ps : List Str} {b : En → WS}
    (lk : G.K.lookup f = some ⟨oc, od, .func (PySem.W.fnOf x qual (defArgs st) (defBody st) (defScope st) dV kV doc pm an cdv ct), osl⟩) (hcd : PySem.W.codeIn G.K cdv qual = true) (S : FnScope Ns ps (defScope st))
    (hm : ∀ ρ, W.Mono (b ρ))
    (body : ∀ (A : Around) (outer : List Env) (s : Shared) (H : Hp) (E : XK), Cz P w G base k (cxD P w G base Ns qual (defScope st) f cdv A outer s H E) (wxD E) →
      DSs G (cxD P w G base Ns qual (defScope st) f cdv A outer s H E) (wxD E) (defBody st) b) :
    FnD P w G base (k + 1) f (PySem.W.fnOf x qual (defArgs st) (defBody st) (defScope st) dV kV doc pm an cdv ct) ps (runBody Ns.length b) := by
  refine ⟨fun A outer s H args us vs ds N Q E hr hg e0 tb hb rv rd hl q => ?_, runBody_mono hm⟩
  refine LamX.run_ofS lk hcd S hr e0 hb rv hl fun hr' => ?_
  have z : Cz P w G base k (cxD P w G base Ns qual (defScope st) f cdv A outer s H E) (wxD E) := ⟨rfl, rfl, rfl, rfl, rfl, hr', hg, takes_of rfl rfl rfl rfl⟩
  have d := body A outer s H E z
  refine ⟨_, d.ps, H, N, initEn Ns.length ds, .start tb rd ?_, (d.mono _).run (fun p y => ?_) (fun p y => ?_) q⟩
  · have := congrArg List.length S.pre
    rw [List.length_take] at this
    omega
  · obtain ⟨fl, ρ⟩ := p
    cases fl with
    | nx => exact fun σ' H' r' => y .non H' r'.same rfl fun z => nomatch z
    | rt r => exact fun v H' s' r' f' => y v H' s' r' f'
    | bk => exact y.elim
    | ct => exact y.elim
  · exact fun σ c dd H' r' x' => y c dd H' r'.same x'

/-! ### calls -/
section
variable {P : Program} {w : World} {G : Wd} {base : Heap} {k j : Nat} {X : Cx} {Wx : WX} {f : Addr} {fd : FuncData} {ps : List Str} {sem : List D → Rt}
/-- the callee runs -/
theorem run_fnd {pins : List (Addr × Obj)} {σ : Fb.St} {H : Hp} {s : Shared} {Q : VK} {us : List Value} {vs : List V} {ds : List D} {N : Addr → Prop} {dvs : List V} {dus : List Value} {dds : List D} (Z : Cz P w G base k X Wx) (F : FnD P w G base j f fd ps sem) (hj : j ≤ k) (hb : Binds X.K fd ps dus) (hd : Vals dvs dus)
    (I : Inv X pins σ H s) (tb : TabsG G H) (r : Vals vs us) (rd : Reps G N H (ds ++ dds) (vs ++ dvs)) (hl : (ds ++ dds).length = ps.length) (h : sem (ds ++ dds) (PoR G N H Q) (PoX G N Wx H σ)) : wpAny (model X.prog X.w) X.A (call (.ref f) us) (EP X pins σ Q) X.xe s := by
  obtain ⟨rfl, rfl, hK, hmg, rfl, hr, hg, tk⟩ := Z
  have r2 : Vals (vs ++ dvs) (us ++ dus) := r.append hd
  have lv : (vs ++ dvs).length = ps.length := rd.length.trans hl
  have lu : (us ++ dus).length = ps.length := r2.length.symm.trans lv
  have e0 : Env0 X.prog X.w G.K G.mg X.base X.A X.stack s H := by rw [← hK, ← hmg]; exact I.env0
  refine wpAny_call (codeAny_mono (F.run X.A X.stack s H ⟨us, []⟩ (us ++ dus) (vs ++ dvs) (ds ++ dds) N Q (fun c dd H' => Wx c dd σ H') (hr.mono hj) hg e0 tb (hb s us I.kIn lu) r2 rd lv ((F.mono _).run (fun _ z => z) (fun x z => z) h)) fun r s' hq => ?_)
  cases r with
  | error e => exact tk e s' (XE.of_call (E := fun c dd H' => Wx c dd σ H') I (fun cls d H' h => h) hq)
  | ok fl =>
    cases fl with
    | ret u => exact I.after hq
    | next => exact False.elim hq
    | brk => exact False.elim hq
    | cont => exact False.elim hq
def mCall (n : Nat) (sem : List D → Rt) (dds : List D) (m : Ro → W Ex (List D)) : Ro → W Ex (Bool × D) := fun ρ => W.bind (m ρ) fun ds => if (ds ++ dds).length = n then sem (ds ++ dds) else W.fail
theorem PoR.step {N : Addr → Prop} {H H1 : Hp} {Q : VK} {r : Bool × D} (h : PoR G N H Q r) (s : Same G H H1) : PoR G (Fr N H) H1 Q r := fun v H' s' r' f' =>
  h v H' (s.trans s') (r'.sub fun _ z => z.fr s) fun w => by
    obtain ⟨a, e1, e2, e3⟩ := f' w
    exact ⟨a, e1, s.free e2, e3.mono (fun b z _ => ⟨z.1.fr s, z.2⟩) (Same.refl H')⟩
theorem PoX.step2 {N : Addr → Prop} {H H1 : Hp} {σ : Fb.St} {x : Ex} (h : PoX G N Wx H σ x) (s : Same G H H1) : PoX G (Fr N H) Wx H1 σ x := fun c dd H' s' r => h c dd H' (s.trans s') (r.mono fun _ z => z.fr s)
theorem mCall_mono {es : List Expr} {m : Ro → W Ex (List D)} {dds : List D} (F : FnD P w G base j f fd ps sem) (ha : DA G X Wx es m) (ρ : Ro) : W.Mono (mCall ps.length sem dds m ρ) :=
  (ha.mono ρ).bind fun ds => ite_mono (F.mono _) W.Mono.fail
/-- f(e, ..) -/
theorem dr_call {x : Str} {e : Expr} {es : List Expr} {p pos : Pos} {m : Ro → W Ex (List D)} {dvs : List V} {dus : List Value} {dds : List D} (Z : Cz P w G base k X Wx) (F : FnD P w G base j f fd ps sem) (hj : j ≤ k) (hm : G.mg x = some (.ref f)) (hk : PySem.W.keepIn G.K (.ref f) = true) (hb : Binds G.K fd ps dus)
    (hd : Vals dvs dus) (hr : ∀ N H, Reps G N H dds dvs) (hg : Gl X x) (ha : DA G X Wx (e :: es) m) (hdb : (x == ("__debug__" : Str)) = false := by decide) (he : starEach (e :: es) X.env = (false, eval e X.env) :: starEach es X.env := by rfl) (hpl : (backTo pos (starEach es X.env)).any (·.1) = false := by rfl) :
    DR G X Wx (.Call (.Name x p) (e :: es) [] pos) (mCall ps.length sem dds m) := by
  refine ⟨⟨fun pins s σ H Q I ⟨N, ρ, rr, q⟩ => ?_⟩, mCall_mono F ha⟩
  refine wpAny_Call_Name_kw (ld_glob I hg (Z.mg ▸ hm) ?_ hdb)
  have go := ha.pa.run pos pins s σ H (fun vs H1 => ∃ ds, Reps G (Fr N H) H1 ds vs ∧ (ds ++ dds).length = ps.length ∧ Same G H H1 ∧ sem (ds ++ dds) (PoR G N H Q) (PoX G N Wx H σ)) I ⟨N, ρ, rr, (ha.mono ρ).run (fun ds z vs H1 s1 r1 => by
    by_cases hl : (ds ++ dds).length = ps.length
    · exact ⟨ds, r1, hl, s1, by simpa only [if_pos hl] using z⟩
    · have z' : (W.fail : Rt) (PoR G N H Q) (PoX G N Wx H σ) := by simpa only [if_neg hl] using z
      exact z'.elim) (fun x z => z) q⟩
  refine PySem.W.callWith_K (h₀ := X.base) I.ok.mod.kin (Z.K ▸ hk) (thn go fun us s1 ⟨vs, H1, I1, r, q1⟩ => ⟨I1.kIn, ?_⟩) he hpl
  obtain ⟨ds, r1, hl, s2, z⟩ := q1
  exact run_fnd Z F hj (Z.K ▸ hb) hd I1 (s2.tab rr.tab) r (r1.app (hr _ _)) hl ((F.mono _).run (fun _ y => y.step s2) (fun _ y => y.step2 s2) z)
end
end Fb
end

section
set_option Elab.async false
set_option linter.all false
set_option maxRecDepth 100000
set_option maxHeartbeats 4000000
/-! Operators over data. -/
namespace Fb
open PySem PySem.Spec PyProof.Rows L2

/-! ### data as the library's data -/
mutual
def D.py : D → Option PyData
  | .non => some .none
  | .bl b => some (.bool b)
  | .int i => some (.int i)
  | .str x => some (.str x)
  | .tup xs => (D.pys xs).map .tuple
  | .lst xs => (D.pys xs).map .list
  | .dic _ => none
  | .ins _ _ => none
  | .box _ => none
  | .ty _ => none
  | .cls _ => none
  | .raw _ => none
  | .scr _ => none
  | .clo _ _ => none
def D.pys : List D → Option (List PyData)
  | [] => some []
  | x :: xs => match D.py x, D.pys xs with
    | some p, some ps => some (p :: ps)
    | _, _ => none
end
section
variable {G : Wd} {N : Addr → Prop} {H : Hp}
mutual
theorem Rep.dp : ∀ {d : D} {v : V} {p : PyData}, Rep G N H d v → d.py = some p → Dp G.K H v p
  | .non, _, _, h, e => by simp only [D.py, Option.some.injEq] at e; subst e; rw [show _ = V.non from h]; exact .non
  | .bl b, _, _, h, e => by simp only [D.py, Option.some.injEq] at e; subst e; rw [show _ = V.bl b from h]; exact .bl b
  | .int i, _, _, h, e => by simp only [D.py, Option.some.injEq] at e; subst e; rw [show _ = V.int i from h]; exact .int i
  | .str x, _, _, h, e => by simp only [D.py, Option.some.injEq] at e; subst e; rw [show _ = V.str x from h]; exact .str x
  | .tup ds, _, _, ⟨a, vs, ev, q, r⟩, e => by
    simp only [D.py, Option.map_eq_some_iff] at e
    obtain ⟨ps, e1, e2⟩ := e
    subst e2 ev
    exact .tup q.sq (Reps.dp r e1)
  | .lst ds, _, _, ⟨a, vs, ev, n, q, r⟩, e => by
    simp only [D.py, Option.map_eq_some_iff] at e
    obtain ⟨ps, e1, e2⟩ := e
    subst e2 ev
    exact .lst (.of q) (Reps.dp r e1)
  | .dic _, _, _, _, e => by simp [D.py] at e
  | .ins _ _, _, _, _, e => by simp [D.py] at e
  | .box _, _, _, _, e => by simp [D.py] at e
  | .ty _, _, _, _, e => by simp [D.py] at e
  | .cls _, _, _, _, e => by simp [D.py] at e
  | .raw _, _, _, _, e => by simp [D.py] at e
  | .scr _, _, _, _, e => by simp [D.py] at e
  | .clo _ _, _, _, _, e => by simp [D.py] at e
theorem Reps.dp : ∀ {ds : List D} {vs : List V} {ps : List PyData}, Reps G N H ds vs → D.pys ds = some ps → DpAll G.K H vs ps
  | [], _, _, h, e => by simp only [D.pys, Option.some.injEq] at e; subst e; rw [show _ = [] from h]; exact .nil
  | d :: ds, _, _, ⟨w, ws, ev, r, rs⟩, e => by
    subst ev
    rcases e1 : D.py d with _ | p
    · simp [D.pys, e1] at e
    · rcases e2 : D.pys ds with _ | qs
      · simp [D.pys, e1, e2] at e
      · simp only [D.pys, e1, e2, Option.some.injEq] at e
        subst e
        exact .cons (Rep.dp r e1) (Reps.dp rs e2)
end
end

/-! ### binary operators with a fresh answer -/
def DOpR (G : Wd) (X : Cx) (r : R2) (g : D → D → Rt) : Prop :=
  (∀ a b, W.Mono (g a b)) ∧ ∀ N H a b x y Q, Rep G N H a x → Rep G N H b y → g a b (PoR G N H Q) (fun _ => False) → r x y H Q
def mOpR (g : D → D → Rt) (m n : Ro → W Ex D) : Ro → W Ex (Bool × D) := fun ρ => W.bind (m ρ) fun a => W.bind (n ρ) fun b => W.calm (g a b)
section
variable {G : Wd} {X : Cx} {Wx : WX}
theorem opR_two {a b : Expr} {m n : Ro → W Ex D} {r : R2} {g : D → D → Rt} (hg : DOpR G X r g) (ha : DE G X Wx a m) (hb : DE G X Wx b n) {N : Addr → Prop} {ρ : Ro} {σ : Fb.St} {H : Hp} {Q : VK} (rr : ERel G N H σ ρ)
    (q : mOpR g m n ρ (PoR G N H Q) (PoX G N Wx H σ)) : tOp r (tE G Wx m) (tE G Wx n) σ H Q := by
  refine ha.go rr q (fun x z => z) fun d v H1 z s1 r1 rr1 => ?_
  refine hb.go rr1 z (fun x z => z.step s1) fun e u H2 z s2 r2 rr2 => ?_
  refine hg.2 (Fr N H) H2 d e v u Q (r1.same s2) (r2.sub fun _ z => z.step s1) ?_
  exact (hg.1 d e).run (fun d z => z.step (s1.trans s2)) (fun _ z => z) z
theorem mOpR_mono {a b : Expr} {m n : Ro → W Ex D} {r : R2} {g : D → D → Rt} (hg : DOpR G X r g) (ha : DE G X Wx a m) (hb : DE G X Wx b n) (ρ : Ro) : W.Mono (mOpR g m n ρ) :=
  (ha.mono ρ).bind fun d => (hb.mono ρ).bind fun e => (hg.1 d e).calm
theorem dr_op {op : Operator} {a b : Expr} {m n : Ro → W Ex D} {r : R2} {g : D → D → Rt} {pos : Pos} (ho : OpR X (binaryOp op) r) (hg : DOpR G X r g) (ha : DE G X Wx a m) (hb : DE G X Wx b n) : DR G X Wx (.BinOp a op b pos) (mOpR g m n) :=
  DR.imp (mOpR_mono hg ha hb) (pe_op ho ha.pe hb.pe) fun N ρ σ H Q rr q => opR_two hg ha hb rr q
theorem de_ix {a b : Expr} {m n : Ro → W Ex D} {r : R2} {g : D → D → W Ex D} {pos : Pos} (ho : IxR X r) (hg : DOp G X r g) (ha : DE G X Wx a m) (hb : DE G X Wx b n) (hs : PlainIx b) : DE G X Wx (.Subscript a b pos) (mOp g m n) :=
  DE.imp (mOp_mono hg ha hb) (pe_ix ho ha.pe hb.pe hs) fun N ρ σ H Q rr q => op_two hg ha hb rr q

/-! ### arithmetic -/
def gAdd : D → D → Rt
  | .int i, .int j => W.ret (false, .int (i + j))
  | .str x, .str y => if x.length + y.length ≤ sizeLine then W.ret (false, .str (x ++ y)) else W.fail
  | .lst xs, .lst ys => if xs.length + ys.length ≤ sizeLine then W.ret (true, .lst (xs ++ ys)) else W.fail
  | .tup xs, .tup ys => if xs ≠ [] ∧ xs.length + ys.length ≤ sizeLine then W.ret (false, .tup (xs ++ ys)) else W.fail
  | _, _ => W.fail
theorem ite_ret {ε α : Type} {c : Prop} [Decidable c] {m : W ε α} {Q : α → Prop} {E : ε → Prop} (h : (if c then m else W.fail) Q E) : c ∧ m Q E := by
  split at h
  · exact ⟨by assumption, h⟩
  · exact h.elim
def rAdd (K : PySem.W.Frag) : R2 := fun x y H Q => (((∃ i j, x = .int i ∧ y = .int j ∧ Q (.int (i + j)) H) ∨ (∃ i j, x = .str i ∧ y = .str j ∧ i.length + j.length ≤ sizeLine ∧ Q (.str (i ++ j)) H)) ∨ rCat x y H Q) ∨ rCatT K x y H Q
theorem op_addAll : OpR X (binaryOp .Add) (rAdd X.K) := ((op_add.or op_add_str).or op_cat).or op_catT
theorem dop_add (hK : X.K = G.K) : DOpR G X (rAdd X.K) gAdd := by
  refine ⟨fun a b => ?_, fun N H a b x y Q ra rb q => ?_⟩
  · unfold gAdd
    split
    · exact W.Mono.ret
    · exact ite_mono W.Mono.ret W.Mono.fail
    · exact ite_mono W.Mono.ret W.Mono.fail
    · exact ite_mono W.Mono.ret W.Mono.fail
    · exact W.Mono.fail
  · cases a <;> cases b <;> first | exact q.elim | skip
    · rename_i i j
      exact .inl (.inl (.inl ⟨i, j, ra, rb, q _ H (Same.refl H) rfl fun z => nomatch z⟩))
    · rename_i i j
      obtain ⟨c, q⟩ := ite_ret q
      exact .inl (.inl (.inr ⟨i, j, ra, rb, c, q _ H (Same.refl H) rfl fun z => nomatch z⟩))
    · rename_i xs ys
      obtain ⟨⟨c1, c3⟩, q⟩ := ite_ret q
      obtain ⟨p, vs, ev, h1, r1⟩ := ra
      obtain ⟨p', vs', ev', h1', r1'⟩ := rb
      have l1 := r1.length
      have l2 := r1'.length
      refine .inr ⟨p, p', vs, vs', ev, ev', hK ▸ h1.sq, hK ▸ h1'.sq, fun z => c1 ?_, by omega, fun z => ?_, fun _ l hl => ?_⟩
      · rw [z] at l1
        exact List.length_eq_zero_iff.mp l1.symm
      · subst z
        have e : ys = [] := List.length_eq_zero_iff.mp l2.symm
        subst e
        exact q _ H (Same.refl H) ⟨p, vs, rfl, h1, by rw [List.append_nil]; exact r1.sub fun _ => Fr.of⟩ fun z => nomatch z
      · have s : Same G H (upd H l (.tup (vs ++ vs'))) := .of fun b o e => by rw [upd_ne (ne_of_none e hl)]; exact e
        exact q (.ref l) _ s ⟨l, _, rfl, .inl upd_same, ((r1.app r1').same s).sub fun _ => Fr.of⟩ fun z => nomatch z
    · rename_i xs ys
      obtain ⟨c, q⟩ := ite_ret q
      obtain ⟨p, vs, ev, n1, h1, r1⟩ := ra
      obtain ⟨p', vs', ev', n1', h1', r1'⟩ := rb
      have l1 := r1.length
      have l2 := r1'.length
      refine .inl (.inr ⟨p, p', vs, vs', ev, ev', h1, h1', by omega, fun l hl => ?_⟩)
      have s : Same G H (upd H l (.lst (vs ++ vs'))) := .of fun b o e => by rw [upd_ne (ne_of_none e hl)]; exact e
      have rr := (r1.app r1').same s
      have nl : ∀ b, N b → H b ≠ none → (Fr N H b ∧ b ≠ l) := fun b z y => ⟨.inl z, fun e => y (e ▸ hl)⟩
      refine q (.ref l) _ s ⟨l, _, rfl, .inr hl, upd_same, rr.sub fun _ z => .inl z⟩ fun _ => ⟨l, rfl, hl, _, upd_same, ?_⟩
      exact (r1.app r1').mono nl (Le.of s)

def gII (f : Int → Int → W Ex D) : D → D → W Ex D
  | .int i, .int j => f i j
  | _, _ => W.fail
theorem dop_ii {r : R2} {f : Int → Int → W Ex D} (hm : ∀ i j, W.Mono (f i j)) (h : ∀ i j H Q, f i j (fun d => ∀ v, (∀ N H, Rep G N H d v) → Q v H) (fun _ => False) → r (.int i) (.int j) H Q) : DOp G X r (gII f) := by
  refine ⟨fun a b => ?_, fun N H a b x y Q ra rb q => ?_⟩
  · unfold gII
    split
    · exact hm _ _
    · exact W.Mono.fail
  · cases a <;> cases b <;> first | exact q.elim | skip
    rename_i i j
    obtain rfl : x = .int i := ra
    obtain rfl : y = .int j := rb
    exact h i j H Q ((hm i j).run (fun d z v rv => z v H (Same.refl H) (rv _ _)) (fun _ z => z) q)
def gSub : D → D → W Ex D := gII fun i j => W.ret (.int (i - j))
theorem dop_sub : DOp G X (rI0 fun i j => .int (i - j)) gSub := dop_ii (fun _ _ => W.Mono.ret) fun i j H Q q => ⟨i, j, rfl, rfl, q _ fun _ _ => rfl⟩
def gMul : D → D → W Ex D := gII fun i j => if (-(2 ^ 64) < i ∧ i < 2 ^ 64) ∨ (-(2 ^ 64) < j ∧ j < 2 ^ 64) then W.ret (.int (i * j)) else W.fail
theorem dop_mul : DOp G X (rI CMul fun i j => .int (i * j)) gMul := dop_ii (fun _ _ => ite_mono W.Mono.ret W.Mono.fail) fun i j H Q q => by
  obtain ⟨c, q⟩ := ite_ret q
  exact ⟨i, j, rfl, rfl, c, q _ fun _ _ => rfl⟩
def gFdiv : D → D → W Ex D := gII fun i j => if 0 < j ∧ j < 1073741824 then W.ret (.int (i / j)) else W.fail
theorem dop_fdiv : DOp G X (rI CDiv fun i j => .int (i / j)) gFdiv := dop_ii (fun _ _ => ite_mono W.Mono.ret W.Mono.fail) fun i j H Q q => by
  obtain ⟨c, q⟩ := ite_ret q
  exact ⟨i, j, rfl, rfl, c, q _ fun _ _ => rfl⟩
def gMod : D → D → W Ex D := gII fun i j => if 0 < j then W.ret (.int (i % j)) else W.fail
theorem dop_mod : DOp G X (rI (fun _ j => 0 < j) fun i j => .int (i % j)) gMod := dop_ii (fun _ _ => ite_mono W.Mono.ret W.Mono.fail) fun i j H Q q => by
  obtain ⟨c, q⟩ := ite_ret q
  exact ⟨i, j, rfl, rfl, c, q _ fun _ _ => rfl⟩
def gPow : D → D → W Ex D := gII fun i j => if 0 ≤ j ∧ j ≤ 1000000 ∧ i.natAbs < 2 ^ 64 then W.ret (.int (i ^ j.toNat)) else W.fail
theorem dop_pow : DOp G X (rI CPow fun i j => .int (i ^ j.toNat)) gPow := dop_ii (fun _ _ => ite_mono W.Mono.ret W.Mono.fail) fun i j H Q q => by
  obtain ⟨c, q⟩ := ite_ret q
  exact ⟨i, j, rfl, rfl, c, q _ fun _ _ => rfl⟩
def gLt : D → D → W Ex D := gII fun i j => W.ret (.bl (decide (i < j)))
theorem dop_lt : DOp G X (rI0 fun i j => .bl (decide (i < j))) gLt := dop_ii (fun _ _ => W.Mono.ret) fun i j H Q q => ⟨i, j, rfl, rfl, q _ fun _ _ => rfl⟩
def gLe : D → D → W Ex D := gII fun i j => W.ret (.bl (decide (i ≤ j)))
theorem dop_le : DOp G X (rI0 fun i j => .bl (decide (i ≤ j))) gLe := dop_ii (fun _ _ => W.Mono.ret) fun i j H Q q => ⟨i, j, rfl, rfl, q _ fun _ _ => rfl⟩
def gGt : D → D → W Ex D := gII fun i j => W.ret (.bl (decide (j < i)))
theorem dop_gt : DOp G X (rI0 fun i j => .bl (decide (j < i))) gGt := dop_ii (fun _ _ => W.Mono.ret) fun i j H Q q => ⟨i, j, rfl, rfl, q _ fun _ _ => rfl⟩
def gGe : D → D → W Ex D := gII fun i j => W.ret (.bl (decide (j ≤ i)))
theorem dop_ge : DOp G X (rI0 fun i j => .bl (decide (j ≤ i))) gGe := dop_ii (fun _ _ => W.Mono.ret) fun i j H Q q => ⟨i, j, rfl, rfl, q _ fun _ _ => rfl⟩
/-- -a -/
def mNeg (m : Ro → W Ex D) : Ro → W Ex D := fun ρ => W.bind (m ρ) fun d => match d with
  | .int i => W.ret (.int (-i))
  | _ => W.fail
theorem de_neg {a : Expr} {m : Ro → W Ex D} {pos : Pos} (ha : DE G X Wx a m) : DE G X Wx (.UnaryOp .USub a pos) (mNeg m) := by
  refine DE.imp (fun ρ => (ha.mono ρ).bind fun d => ?_) (pe_un un_neg ha.pe) fun N ρ σ H Q rr q => ?_
  · split
    · exact W.Mono.ret
    · exact W.Mono.fail
  · refine ha.go rr q (fun x z => z) fun d v H1 z s1 r1 _ => ?_
    cases d <;> first | exact z.elim | skip
    rename_i i
    exact ⟨i, r1, z _ H1 s1 rfl⟩

/-! ### == and != -/
def D.deq (a b : D) : Option Bool := match a.py, b.py with
  | some p, some q => if SeqAt.shaped p = true ∧ SeqAt.shaped q = true then some (PyData.eqv p q) else none
  | _, _ => none
def gEq (neg : Bool) (a b : D) : W Ex D := match D.deq a b with
  | some t => W.ret (.bl (t != neg))
  | none => W.fail
theorem deq_inv {a b : D} {t : Bool} (h : D.deq a b = some t) : ∃ p q, a.py = some p ∧ b.py = some q ∧ SeqAt.shaped p = true ∧ SeqAt.shaped q = true ∧ PyData.eqv p q = t := by
  unfold D.deq at h
  rcases ea : a.py with _ | p
  · rw [ea] at h; cases h
  · rcases eb : b.py with _ | q
    · rw [ea, eb] at h; cases h
    · rw [ea, eb] at h
      by_cases c : SeqAt.shaped p = true ∧ SeqAt.shaped q = true
      · simp only [if_pos c, Option.some.injEq] at h
        exact ⟨p, q, rfl, rfl, c.1, c.2, h⟩
      · simp only [if_neg c] at h
        cases h
theorem gEq_mono (neg : Bool) (a b : D) : W.Mono (gEq neg a b) := by
  unfold gEq
  split
  · exact W.Mono.ret
  · exact W.Mono.fail
theorem gEq_inv {neg : Bool} {a b : D} {Q : D → Prop} {E : Ex → Prop} (h : gEq neg a b Q E) : ∃ t, D.deq a b = some t ∧ Q (.bl (t != neg)) := by
  unfold gEq at h
  rcases e : D.deq a b with _ | t
  · rw [e] at h; exact h.elim
  · rw [e] at h; exact ⟨t, rfl, h⟩
theorem dop_eq (hK : X.K = G.K) : DOp G X (rEqD X.K) (gEq false) := by
  refine ⟨gEq_mono _, fun N H a b x y Q ra rb q => ?_⟩
  obtain ⟨t, e, q⟩ := gEq_inv q
  obtain ⟨p, p', e1, e2, s1, s2, e3⟩ := deq_inv e
  refine ⟨p, p', hK ▸ ra.dp e1, hK ▸ rb.dp e2, s1, s2, q _ H (Same.refl H) ?_⟩
  subst e3
  show V.bl _ = V.bl _
  simp
theorem dop_ne (hK : X.K = G.K) : DOp G X (rNeD X.K) (gEq true) := by
  refine ⟨gEq_mono _, fun N H a b x y Q ra rb q => ?_⟩
  obtain ⟨t, e, q⟩ := gEq_inv q
  obtain ⟨p, p', e1, e2, s1, s2, e3⟩ := deq_inv e
  refine ⟨p, p', hK ▸ ra.dp e1, hK ▸ rb.dp e2, s1, s2, q _ H (Same.refl H) ?_⟩
  subst e3
  show V.bl _ = V.bl _
  simp
/-- is None -/
def isN : D → Bool
  | .non => true
  | _ => false
theorem Rep.isN {N : Addr → Prop} {H : Hp} {d : D} {v : V} (r : Rep G N H d v) : decide (v = .non) = Fb.isN d := by
  cases d with
  | non => rw [show v = V.non from r]; rfl
  | bl b => rw [show v = V.bl b from r]; rfl
  | int b => rw [show v = V.int b from r]; rfl
  | str b => rw [show v = V.str b from r]; rfl
  | tup ds => obtain ⟨a, _, e, _⟩ := r; rw [e]; rfl
  | lst ds => obtain ⟨a, _, e, _⟩ := r; rw [e]; rfl
  | dic ds => obtain ⟨a, _, e, _⟩ := r; rw [e]; rfl
  | ins c ds => obtain ⟨a, _, _, _, e, _⟩ := r; rw [e]; rfl
  | box ds => obtain ⟨a, e, _⟩ := r; rw [e]; rfl
  | ty ds => rw [show v = V.ty ds from r]; rfl
  | cls ds => obtain ⟨a, e, _⟩ := r; rw [e]; rfl
  | raw a => rw [show v = V.ref a from r]; rfl
  | scr a => obtain ⟨a, e, _⟩ := r; rw [e]; rfl
  | clo k cs => obtain ⟨e, _⟩ := r; rw [e]; rfl
def gIs (neg : Bool) (a b : D) : W Ex D := match b with
  | .non => W.ret (.bl (isN a != neg))
  | _ => W.fail
theorem gIs_mono (neg : Bool) (a b : D) : W.Mono (gIs neg a b) := by
  unfold gIs
  split
  · exact W.Mono.ret
  · exact W.Mono.fail
theorem dop_is : DOp G X (fun x y H Q => y = .non ∧ Q (.bl (decide (x = .non))) H) (gIs false) := by
  refine ⟨gIs_mono _, fun N H a b x y Q ra rb q => ?_⟩
  cases b <;> first | exact q.elim | skip
  exact ⟨rb, q _ H (Same.refl H) (by rw [ra.isN]; show V.bl _ = V.bl _; simp)⟩
theorem dop_isnot : DOp G X (fun x y H Q => y = .non ∧ Q (.bl (!decide (x = .non))) H) (gIs true) := by
  refine ⟨gIs_mono _, fun N H a b x y Q ra rb q => ?_⟩
  cases b <;> first | exact q.elim | skip
  exact ⟨rb, q _ H (Same.refl H) (by rw [ra.isN]; show V.bl _ = V.bl _; simp)⟩

/-! ### dicts -/
/-- what may be a key -/
def keyOf : D → Option Key
  | .int i => some (.inl i)
  | .str x => some (.inr x)
  | _ => none
theorem Rep.key {N : Addr → Prop} {H : Hp} {d : D} {v : V} {k : Key} (r : Rep G N H d v) (e : keyOf d = some k) : v = kV k := by
  cases d <;> simp [keyOf] at e
  · subst e; exact r
  · subst e; exact r
def lookK (kvs : List (Key × D)) (k : Key) : Option D := match kvs with
  | [] => none
  | (k', d) :: r => if k' = k then some d else lookK r k
theorem valV_cons (k' : Key) (w : V) (ws : List (Key × V)) (k : Key) : valV ((k', w) :: ws) k = if k' = k then some w else valV ws k := by
  unfold valV
  rw [List.find?_cons]
  by_cases h : k' = k
  · simp [h]
  · simp [h]
theorem RepK.look {N : Addr → Prop} {H : Hp} {k : Key} : ∀ {kvs : List (Key × D)} {ks : List (Key × V)}, RepK G N H kvs ks → match lookK kvs k with
    | some d => ∃ v, valV ks k = some v ∧ Rep G N H d v
    | none => valV ks k = none
  | [], _, h => by rw [show _ = [] from h]; rfl
  | (k', d) :: r, _, ⟨w, ws, e, rd, rs⟩ => by
    subst e
    unfold lookK
    rw [valV_cons]
    by_cases hk : k' = k
    · rw [if_pos hk, if_pos hk]
      exact ⟨w, rfl, rd⟩
    · rw [if_neg hk, if_neg hk]
      exact RepK.look rs
theorem RepK.length {N : Addr → Prop} {H : Hp} : ∀ {kvs : List (Key × D)} {ks : List (Key × V)}, RepK G N H kvs ks → ks.length = kvs.length
  | [], _, h => by rw [show _ = [] from h]; rfl
  | (k', d) :: r, _, ⟨w, ws, e, rd, rs⟩ => by rw [e, List.length_cons, List.length_cons, RepK.length rs]
theorem RepK.dget {N : Addr → Prop} {H : Hp} {a : Addr} {kvs : List (Key × D)} {ks : List (Key × V)} {k : Key} (r : RepK G N H kvs ks) (e : Rd H a (.dK ks)) : DGet H a (kV k) (valV ks k) := .inl ⟨ks, k, e, rfl, rfl⟩

/-! ### in -/
def strIn (x z : Str) : Bool := match x.cps.toList with
  | [c] => decide (c ∈ z.cps.toList)
  | _ => !(Builtin.Str.occurrences z x 0 z.length 1).isEmpty
def seqIn (ys : List D) (x : D) : Option Bool := match D.pys ys, x.py with
  | some ps, some p => if SeqAt.shaped p = true ∧ SeqAt.shaped (.list ps) = true ∧ SeqAt.shaped (.tuple ps) = true then some (ps.any fun z => PyData.eqv z p) else none
  | _, _ => none
def inD (x : D) : D → Option Bool
  | .lst ys => seqIn ys x
  | .tup ys => seqIn ys x
  | .dic kvs => match keyOf x with
    | some k => some (lookK kvs k).isSome
    | none => none
  | .str z => match x with
    | .str y => some (strIn y z)
    | _ => none
  | _ => none
def gIn (neg : Bool) (x y : D) : W Ex D := match inD x y with
  | some t => W.ret (.bl (t != neg))
  | none => W.fail
theorem gIn_mono (neg : Bool) (a b : D) : W.Mono (gIn neg a b) := by
  unfold gIn
  split
  · exact W.Mono.ret
  · exact W.Mono.fail
theorem gIn_inv {neg : Bool} {a b : D} {Q : D → Prop} {E : Ex → Prop} (h : gIn neg a b Q E) : ∃ t, inD a b = some t ∧ Q (.bl (t != neg)) := by
  unfold gIn at h
  rcases e : inD a b with _ | t
  · rw [e] at h; exact h.elim
  · rw [e] at h; exact ⟨t, rfl, h⟩
theorem seqIn_inv {ys : List D} {x : D} {t : Bool} (h : seqIn ys x = some t) : ∃ ps p, D.pys ys = some ps ∧ x.py = some p ∧ SeqAt.shaped p = true ∧ SeqAt.shaped (.list ps) = true ∧ SeqAt.shaped (.tuple ps) = true ∧ (ps.any fun z => PyData.eqv z p) = t := by
  unfold seqIn at h
  rcases ea : D.pys ys with _ | ps
  · rw [ea] at h; cases h
  · rcases eb : x.py with _ | p
    · rw [ea, eb] at h; cases h
    · rw [ea, eb] at h
      by_cases c : SeqAt.shaped p = true ∧ SeqAt.shaped (.list ps) = true ∧ SeqAt.shaped (.tuple ps) = true
      · simp only [if_pos c, Option.some.injEq] at h
        exact ⟨ps, p, rfl, rfl, c.1, c.2.1, c.2.2, h⟩
      · simp only [if_neg c] at h
        cases h
/-- the rule of in, whatever is asked: by the data -/
def rInAll (neg : Bool) (G : Wd) : R2 := fun x y H Q => ∃ N a b t, Rep G N H a x ∧ Rep G N H b y ∧ inD a b = some t ∧ Q (.bl (t != neg)) H
theorem op_inAll (Z : X.K = G.K) (hu : X.A.units + 65 < cLine) : OpR X (compareOp .In) (rInAll false G) := by
  intro pins s σ H x y v u Q I rx ry h
  obtain ⟨N, a, b, t, ra, rb, e, q⟩ := h
  have q : Q (.bl t) H := by simpa using q
  cases b with
  | lst ys =>
    obtain ⟨ps, p, e1, e2, s1, s2, s3, e3⟩ := seqIn_inv (show seqIn ys a = some t from e)
    obtain ⟨as, r1⟩ := Dp.reads I p x v (Z ▸ ra.dp e2) rx
    obtain ⟨bs, r2⟩ := Dp.reads I (.list ps) y u (Z ▸ rb.dp (by simp only [D.py, e1, Option.map_some])) ry
    have hd := SeqAt.depth_of_shaped s1
    exact SeqAt.in_list_reads r2 r1 (SeqAt.canLay_of_shaped s2) (SeqAt.canLay_of_shaped s1) (by have := Nat.min_le_right (PyData.depthAll ps) p.depth; omega) ⟨.bl _, H, I, rfl, e3 ▸ q⟩
  | tup ys =>
    obtain ⟨ps, p, e1, e2, s1, s2, s3, e3⟩ := seqIn_inv (show seqIn ys a = some t from e)
    obtain ⟨as, r1⟩ := Dp.reads I p x v (Z ▸ ra.dp e2) rx
    obtain ⟨bs, r2⟩ := Dp.reads I (.tuple ps) y u (Z ▸ rb.dp (by simp only [D.py, e1, Option.map_some])) ry
    have hd := SeqAt.depth_of_shaped s1
    exact SeqAt.in_tuple_reads r2 r1 (SeqAt.canLay_of_shaped s3) (SeqAt.canLay_of_shaped s1) (by have := Nat.min_le_right (PyData.depthAll ps) p.depth; omega) ⟨.bl _, H, I, rfl, e3 ▸ q⟩
  | dic kvs =>
    obtain ⟨c, ks, ev, n, r, rk⟩ := rb
    subst ev
    obtain rfl : u = Value.ref c := ry
    rcases ek : keyOf a with _ | k
    · simp [inD, ek] at e
    · simp only [inD, ek, Option.some.injEq] at e
      have ex := ra.key ek
      subst ex
      refine d_in (by omega) I (rk.dget r) rx fun s' I' => ⟨.bl _, H, I', rfl, ?_⟩
      have lk := rk.look (k := k)
      rcases el : lookK kvs k with _ | d
      · rw [el] at lk e
        have lk : valV ks k = none := lk
        rw [lk]
        subst e
        exact q
      · rw [el] at lk e
        obtain ⟨w, hw, _⟩ := (lk : ∃ v, valV ks k = some v ∧ Rep G N H d v)
        rw [hw]
        subst e
        exact q
  | str z =>
    obtain rfl : y = V.str z := rb
    cases a <;> first | (simp [inD] at e; done) | skip
    rename_i w
    obtain rfl : x = V.str w := ra
    obtain ⟨tv, rfl⟩ := rx
    obtain ⟨tu, rfl⟩ := ry
    have ee : strIn w z = t := by simpa [inD] using e
    clear e
    unfold strIn at ee
    split at ee
    · rename_i c hc
      have ew : w = ⟨#[c]⟩ := by
        obtain ⟨cps⟩ := w
        have : cps = #[c] := by
          have h := congrArg List.toArray hc
          simpa using h
        rw [this]
      subst ew
      exact PyProof.Rows.in_str (fin_bl I q (by rw [← ee]; exact (PySem.StrLaws.found_one z c).symm))
    · exact PyProof.Rows.in_str (fin_bl I q ee.symm)
  | _ => simp [inD] at e
theorem op_notInAll (Z : X.K = G.K) (hu : X.A.units + 65 < cLine) : OpR X (compareOp .NotIn) (rInAll true G) := by
  intro pins s σ H x y v u Q I rx ry h
  obtain ⟨N, a, b, t, ra, rb, e, q⟩ := h
  have q : Q (.bl (!t)) H := by simpa using q
  cases b with
  | lst ys =>
    obtain ⟨ps, p, e1, e2, s1, s2, s3, e3⟩ := seqIn_inv (show seqIn ys a = some t from e)
    obtain ⟨as, r1⟩ := Dp.reads I p x v (Z ▸ ra.dp e2) rx
    obtain ⟨bs, r2⟩ := Dp.reads I (.list ps) y u (Z ▸ rb.dp (by simp only [D.py, e1, Option.map_some])) ry
    have hd := SeqAt.depth_of_shaped s1
    exact SeqAt.notIn_list_reads r2 r1 (SeqAt.canLay_of_shaped s2) (SeqAt.canLay_of_shaped s1) (by have := Nat.min_le_right (PyData.depthAll ps) p.depth; omega) ⟨.bl _, H, I, rfl, e3 ▸ q⟩
  | tup ys =>
    obtain ⟨ps, p, e1, e2, s1, s2, s3, e3⟩ := seqIn_inv (show seqIn ys a = some t from e)
    obtain ⟨as, r1⟩ := Dp.reads I p x v (Z ▸ ra.dp e2) rx
    obtain ⟨bs, r2⟩ := Dp.reads I (.tuple ps) y u (Z ▸ rb.dp (by simp only [D.py, e1, Option.map_some])) ry
    have hd := SeqAt.depth_of_shaped s1
    exact SeqAt.notIn_tuple_reads r2 r1 (SeqAt.canLay_of_shaped s3) (SeqAt.canLay_of_shaped s1) (by have := Nat.min_le_right (PyData.depthAll ps) p.depth; omega) ⟨.bl _, H, I, rfl, e3 ▸ q⟩
  | dic kvs =>
    obtain ⟨c, ks, ev, n, r, rk⟩ := rb
    subst ev
    obtain rfl : u = Value.ref c := ry
    rcases ek : keyOf a with _ | k
    · simp [inD, ek] at e
    · simp only [inD, ek, Option.some.injEq] at e
      have ex := ra.key ek
      subst ex
      refine d_notIn (by omega) I (rk.dget r) rx fun s' I' => ⟨.bl _, H, I', rfl, ?_⟩
      have lk := rk.look (k := k)
      rcases el : lookK kvs k with _ | d
      · rw [el] at lk e
        have lk : valV ks k = none := lk
        rw [lk]
        subst e
        exact q
      · rw [el] at lk e
        obtain ⟨w, hw, _⟩ := (lk : ∃ v, valV ks k = some v ∧ Rep G N H d v)
        rw [hw]
        subst e
        exact q
  | str z =>
    obtain rfl : y = V.str z := rb
    cases a <;> first | (simp [inD] at e; done) | skip
    rename_i w
    obtain rfl : x = V.str w := ra
    obtain ⟨tv, rfl⟩ := rx
    obtain ⟨tu, rfl⟩ := ry
    have ee : strIn w z = t := by simpa [inD] using e
    clear e
    unfold strIn at ee
    split at ee
    · rename_i c hc
      have ew : w = ⟨#[c]⟩ := by
        obtain ⟨cps⟩ := w
        have : cps = #[c] := by
          have h := congrArg List.toArray hc
          simpa using h
        rw [this]
      subst ew
      exact PyProof.Rows.notIn_str (fin_bl I q (by rw [← ee, ← PySem.StrLaws.found_one z c]))
    · exact PyProof.Rows.notIn_str (fin_bl I q (by rw [← ee]))
  | _ => simp [inD] at e
theorem dop_in {neg : Bool} : DOp G X (rInAll neg G) (gIn neg) := by
  refine ⟨gIn_mono _, fun N H a b x y Q ra rb q => ?_⟩
  obtain ⟨t, e, q⟩ := gIn_inv q
  exact ⟨N, a, b, t, ra, rb, e, q _ H (Same.refl H) rfl⟩
end
end Fb
end

section
set_option Elab.async false
set_option linter.all false
set_option maxRecDepth 100000
set_option maxHeartbeats 4000000
/-! Subscripts, slices, fields, tests, displays. -/
namespace Fb
open PySem PySem.Spec PyProof.Rows L2

section
variable {G : Wd} {X : Cx} {Wx : WX}
/-! ### a[b] -/
theorem ixN_lt {n : Nat} {i : Int} {j : Nat} (h : ixN n i = some j) : j < n := (ixN_seq h).2.1
theorem Reps.at {N : Addr → Prop} {H : Hp} {ds : List D} {vs : List V} {i : Int} {d : D} (r : Reps G N H ds vs) (h : atI ds i = some d) : ∃ v, atI vs i = some v ∧ Rep G N H d v := by
  unfold atI at h ⊢
  rw [r.length]
  rcases e : ixN ds.length i with _ | j
  · rw [e] at h; cases h
  · rw [e] at h
    exact Reps.get' r h
def ixD : D → D → Option D
  | .lst xs, .int i => atI xs i
  | .tup xs, .int i => atI xs i
  | .str z, .int i => if z.length ≤ sizeLine then (atI z.cps.toList i).map fun c => .str ⟨#[c]⟩ else none
  | .dic kvs, k => match keyOf k with
    | some k => lookK kvs k
    | none => none
  | _, _ => none
def gIx (x y : D) : W Ex D := match ixD x y with
  | some d => W.ret d
  | none => W.fail
theorem gIx_mono (a b : D) : W.Mono (gIx a b) := by
  unfold gIx
  split
  · exact W.Mono.ret
  · exact W.Mono.fail
theorem gIx_inv {a b : D} {Q : D → Prop} {E : Ex → Prop} (h : gIx a b Q E) : ∃ d, ixD a b = some d ∧ Q d := by
  unfold gIx at h
  rcases e : ixD a b with _ | t
  · rw [e] at h; exact h.elim
  · rw [e] at h; exact ⟨t, rfl, h⟩
def rIxAll (G : Wd) : R2 := fun x y H Q => ∃ N a b d, Rep G N H a x ∧ Rep G N H b y ∧ ixD a b = some d ∧ ∀ v, Rep G N H d v → Q v H
theorem ix_all (Z : X.K = G.K) (hu : X.A.units + 1 < cLine) : IxR X (rIxAll G) := by
  intro value slice pins s σ H x y v u Q I rx ry h hs
  obtain ⟨N, a, b, d, ra, rb, e, q⟩ := h
  cases a with
  | lst xs =>
    cases b <;> first | (simp [ixD] at e; done) | skip
    rename_i i
    obtain ⟨p, vs, ev, n, h1, r1⟩ := ra
    obtain ⟨w, e1, r2⟩ := r1.at (show atI xs i = some d from e)
    exact ix_list value slice pins s σ H x y v u Q I rx ry ⟨p, vs, i, w, ev, rb, .of h1, e1, q w r2⟩ hs
  | tup xs =>
    cases b <;> first | (simp [ixD] at e; done) | skip
    rename_i i
    obtain ⟨p, vs, ev, h1, r1⟩ := ra
    obtain ⟨w, e1, r2⟩ := r1.at (show atI xs i = some d from e)
    exact ix_tup value slice pins s σ H x y v u Q I rx ry ⟨p, vs, i, w, ev, rb, Z ▸ h1.sq, e1, q w r2⟩ hs
  | str z =>
    cases b <;> first | (simp [ixD] at e; done) | skip
    rename_i i
    have e : (if z.length ≤ sizeLine then (atI z.cps.toList i).map fun c => D.str ⟨#[c]⟩ else none) = some d := e
    by_cases hz : z.length ≤ sizeLine
    · rw [if_pos hz] at e
      rcases ec : atI z.cps.toList i with _ | c
      · rw [ec] at e; cases e
      · rw [ec] at e
        cases e
        exact ix_str value slice pins s σ H x y v u Q I rx ry ⟨z, i, c, ra, rb, hz, ec, q _ rfl⟩ hs
    · rw [if_neg hz] at e; cases e
  | dic kvs =>
    obtain ⟨c, ks, ev, n, r, rk⟩ := ra
    subst ev
    obtain rfl : v = Value.ref c := rx
    rcases ek : keyOf b with _ | k
    · simp [ixD, ek] at e
    · have e : lookK kvs k = some d := by simpa [ixD, ek] using e
      have ex := rb.key ek
      subst ex
      have lk := rk.look (k := k)
      rw [e] at lk
      obtain ⟨w, hw, rw'⟩ := (lk : ∃ v, valV ks k = some v ∧ Rep G N H d v)
      have g : DGet H c (kV k) (some w) := hw ▸ rk.dget r
      exact tail_any (dict_typeIs I g) PySem.F.slot_dict_getitem.lookup (d_getItem hu I g ry fun w' s' I' rw2 => ⟨w, H, I', rw2, q w rw'⟩) hs
  | _ => simp [ixD] at e
theorem dop_ix : DOp G X (rIxAll G) gIx := by
  refine ⟨gIx_mono, fun N H a b x y Q ra rb q => ?_⟩
  obtain ⟨d, e, q⟩ := gIx_inv q
  exact ⟨N, a, b, d, ra, rb, e, fun v r => q v H (Same.refl H) (r.sub fun _ => Fr.of)⟩

/-! ### slices -/
def cutD (xs : List D) (lo hi : Option Int) : List D := (xs.drop (HT.sIx xs.length 0 lo)).take (HT.sIx xs.length xs.length hi - HT.sIx xs.length 0 lo)
theorem Reps.drop {N : Addr → Prop} {H : Hp} : ∀ {ds : List D} {vs : List V} (n : Nat), Reps G N H ds vs → Reps G N H (ds.drop n) (vs.drop n)
  | _, _, 0, h => h
  | [], _, n + 1, h => by rw [show _ = [] from h]; exact rfl
  | _ :: _, _, n + 1, ⟨w, ws, e, _, rs⟩ => by subst e; exact Reps.drop n rs
theorem Reps.take {N : Addr → Prop} {H : Hp} : ∀ {ds : List D} {vs : List V} (n : Nat), Reps G N H ds vs → Reps G N H (ds.take n) (vs.take n)
  | _, _, 0, h => rfl
  | [], _, n + 1, h => by rw [show _ = [] from h]; exact rfl
  | _ :: _, _, n + 1, ⟨w, ws, e, r, rs⟩ => by subst e; exact ⟨w, ws.take n, rfl, r, Reps.take n rs⟩
theorem Reps.cut {N : Addr → Prop} {H : Hp} {ds : List D} {vs : List V} {lo hi : Option Int} (r : Reps G N H ds vs) : Reps G N H (cutD ds lo hi) (cutV vs lo hi) := by
  unfold cutD cutV
  rw [r.length]
  exact (r.drop _).take _
/-- a part of a slice -/
structure DO (G : Wd) (X : Cx) (Wx : WX) (e : Option Expr) (m : Ro → W Ex (Option Int)) : Prop where
  po : PO X e (fun σ H Q => ∃ N ρ, ERel G N H σ ρ ∧ m ρ (fun o => ∀ H', Same G H H' → Q o H') (PoX G N Wx H σ))
  mono : ∀ ρ, W.Mono (m ρ)
def mNoPart : Ro → W Ex (Option Int) := fun _ => W.ret none
def mPart (m : Ro → W Ex D) : Ro → W Ex (Option Int) := fun ρ => W.bind (m ρ) fun d => match d with
  | .int i => W.ret (some i)
  | _ => W.fail
theorem do_none : DO G X Wx none mNoPart := ⟨⟨fun pins s σ H Q I ⟨N, ρ, r, q⟩ => po_none.run pins s σ H Q I (q H (Same.refl H))⟩, fun _ => W.Mono.ret⟩
theorem do_some {e : Expr} {m : Ro → W Ex D} (h : DE G X Wx e m) : DO G X Wx (some e) (mPart m) := by
  refine ⟨⟨fun pins s σ H Q I ⟨N, ρ, r, q⟩ => (po_some h.pe).run pins s σ H Q I ?_⟩, fun ρ => (h.mono ρ).bind fun d => ?_⟩
  · refine h.go r q (fun x z => z) fun d v H1 z s1 r1 _ => ?_
    cases d <;> first | exact z.elim | skip
    exact ⟨_, r1, z H1 s1⟩
  · split
    · exact W.Mono.ret
    · exact W.Mono.fail
theorem Reps.ofInts {N : Addr → Prop} {H : Hp} : ∀ ns : List Int, Reps G N H (ns.map D.int) (ns.map V.int)
  | [] => rfl
  | i :: r => ⟨.int i, _, rfl, rfl, Reps.ofInts r⟩
def gSl (d : D) (lo hi : Option Int) : Rt := match d with
  | .scr ns => W.ret (true, .lst (cutD (ns.map D.int) lo hi))
  | .lst xs => W.ret (true, .lst (cutD xs lo hi))
  | .tup xs => if HT.sIx xs.length 0 lo = 0 ∧ HT.sIx xs.length xs.length hi = xs.length then W.fail else W.ret (false, .tup (cutD xs lo hi))
  | _ => W.fail
theorem gSl_mono (d : D) (lo hi : Option Int) : W.Mono (gSl d lo hi) := by
  unfold gSl
  split
  · exact W.Mono.ret
  · exact W.Mono.ret
  · exact ite_mono W.Mono.fail W.Mono.ret
  · exact W.Mono.fail
def mSlice (m : Ro → W Ex D) (l h : Ro → W Ex (Option Int)) : Ro → W Ex (Bool × D) := fun ρ => W.bind (m ρ) fun d => W.bind (l ρ) fun lo => W.bind (h ρ) fun hi => gSl d lo hi
/-- a new list at l -/
theorem new_lst {N : Addr → Prop} {H : Hp} {Q : VK} {ds : List D} {vs : List V} (r : Reps G N H ds vs) (q : PoR G N H Q (true, .lst ds)) (l : Addr) (hl : H l = none) : Q (.ref l) (upd H l (.lst vs)) := by
  have s : Same G H (upd H l (.lst vs)) := .of fun b o e => by rw [upd_ne (ne_of_none e hl)]; exact e
  refine q (.ref l) _ s ⟨l, _, rfl, .inr hl, upd_same, (r.same s).sub fun _ z => .inl z⟩ fun _ => ⟨l, rfl, hl, _, upd_same, ?_⟩
  exact r.mono (fun b z y => ⟨.inl z, fun e => y (e ▸ hl)⟩) (Le.of s)
theorem new_tup {N : Addr → Prop} {H : Hp} {Q : VK} {ds : List D} {vs : List V} (r : Reps G N H ds vs) (q : PoR G N H Q (false, .tup ds)) (l : Addr) (hl : H l = none) : Q (.ref l) (upd H l (.tup vs)) := by
  have s : Same G H (upd H l (.tup vs)) := .of fun b o e => by rw [upd_ne (ne_of_none e hl)]; exact e
  exact q (.ref l) _ s ⟨l, _, rfl, .inl upd_same, (r.same s).sub fun _ => Fr.of⟩ fun z => nomatch z
theorem new_dic {N : Addr → Prop} {H : Hp} {Q : VK} {ds : List (Key × D)} {vs : List (Key × V)} (r : RepK G N H ds vs) (q : PoR G N H Q (true, .dic ds)) (l : Addr) (hl : H l = none) : Q (.ref l) (upd H l (.dK vs)) := by
  have s : Same G H (upd H l (.dK vs)) := .of fun b o e => by rw [upd_ne (ne_of_none e hl)]; exact e
  refine q (.ref l) _ s ⟨l, _, rfl, .inr hl, .inl upd_same, RepK.mono (fun b z _ => .inl z) (Le.of s) r⟩ fun _ => ⟨l, rfl, hl, _, upd_same, ?_⟩
  exact RepK.mono (fun b z y => ⟨.inl z, fun e => y (e ▸ hl)⟩) (Le.of s) r
theorem dr_slice {e : Expr} {lo hi : Option Expr} {m : Ro → W Ex D} {l h : Ro → W Ex (Option Int)} {p2 pos : Pos} (Z : X.K = G.K) (he : DE G X Wx e m) (hl : DO G X Wx lo l) (hh : DO G X Wx hi h) : DR G X Wx (.Subscript e (.Slice lo hi none p2) pos) (mSlice m l h) := by
  refine DR.imp (fun ρ => (he.mono ρ).bind fun d => (hl.mono ρ).bind fun _ => (hh.mono ρ).bind fun _ => gSl_mono _ _ _) (pe_slice (sl_list.or sl_tup) he.pe hl.po hh.po) fun N ρ σ H Q r q => ?_
  refine he.go r q (fun x z => z) fun d v H1 z s1 r1 rr1 => ?_
  refine ⟨N, ρ, rr1, (hl.mono ρ).run (fun lo' z H2 s2 => ?_) (fun x z => z.step s1) z⟩
  refine ⟨N, ρ, rr1.same s2, (hh.mono ρ).run (fun hi' z H3 s3 => ?_) (fun x z => z.step (s1.trans s2)) z⟩
  have s : Same G H H3 := (s1.trans s2).trans s3
  cases d with
  | scr ns =>
    obtain ⟨p, ev, h1⟩ := r1
    exact .inl ⟨p, _, ev, Z ▸ ((Le.of (s2.trans s3)).scr h1).sq, fun a ha => new_lst (N := Fr N H) (Reps.cut (Reps.ofInts ns)) (PoR.step (h := z) s) a ha⟩
  | lst xs =>
    obtain ⟨p, vs, ev, n, h1, rs⟩ := r1
    exact .inl ⟨p, vs, ev, .of ((s2.trans s3).at h1), fun a ha => new_lst (rs.same (s2.trans s3)).cut (PoR.step (h := z) s) a ha⟩
  | tup xs =>
    obtain ⟨p, vs, ev, h1, rs⟩ := r1
    have e : gSl (.tup xs) lo' hi' = if HT.sIx xs.length 0 lo' = 0 ∧ HT.sIx xs.length xs.length hi' = xs.length then W.fail else W.ret (false, .tup (cutD xs lo' hi')) := rfl
    rw [e] at z
    by_cases c : HT.sIx xs.length 0 lo' = 0 ∧ HT.sIx xs.length xs.length hi' = xs.length
    · rw [if_pos c] at z; exact z.elim
    · rw [if_neg c] at z
      exact .inr ⟨p, vs, ev, Z ▸ ((Le.of (s2.trans s3)).tupT h1).sq, by rw [rs.length]; exact c, fun a ha => new_tup (rs.same (s2.trans s3)).cut (PoR.step (h := z) s) a ha⟩
  | _ => exact z.elim

/-! ### fields -/
theorem RepF.look {N : Addr → Prop} {H : Hp} {f : Str} : ∀ {fs : List (Str × D)} {gs : List (Str × V)} {d : D}, RepF G N H fs gs → fs.lookup f = some d → ∃ v, gs.lookup f = some v ∧ Rep G N H d v
  | [], _, _, h, e => by cases e
  | (k, d') :: r, _, d, ⟨w, ws, ew, rd, rs⟩, e => by
    subst ew
    rw [List.lookup_cons] at e ⊢
    cases hb : f == k with
    | true =>
      rw [hb] at e
      cases e
      exact ⟨w, rfl, rd⟩
    | false =>
      rw [hb] at e
      exact RepF.look rs e
structure ClsD (G : Wd) (c : Str) (C : Addr) : Prop where
  mg : G.mg c = some (.ref C)
  cl : Cls G.K C
def fldD (c f : Str) (d : D) : Option D := match d with
  | .ins c' fs => if c' = c then fs.lookup f else none
  | _ => none
def W.opt (o : Option D) : W Ex D := match o with
  | some d => W.ret d
  | none => W.fail
theorem opt_mono (o : Option D) : W.Mono (W.opt o) := by
  cases o with
  | none => exact W.Mono.fail
  | some d => exact W.Mono.ret
theorem opt_inv {o : Option D} {Q : D → Prop} {E : Ex → Prop} (h : W.opt o Q E) : ∃ d, o = some d ∧ Q d := by
  cases o with
  | none => exact h.elim
  | some d => exact ⟨d, rfl, h⟩
def gFld (c f : Str) (d : D) : W Ex D := W.opt (fldD c f d)
theorem gFld_mono (c f : Str) (d : D) : W.Mono (gFld c f d) := opt_mono _
theorem gFld_inv {c f : Str} {d : D} {Q : D → Prop} {E : Ex → Prop} (h : gFld c f d Q E) : ∃ fs e, d = .ins c fs ∧ fs.lookup f = some e ∧ Q e := by
  obtain ⟨e, h1, h2⟩ := opt_inv h
  cases d with
  | ins c' fs =>
    have h1 : (if c' = c then fs.lookup f else none) = some e := h1
    by_cases hc : c' = c
    · subst hc
      rw [if_pos rfl] at h1
      exact ⟨fs, e, rfl, h1, h2⟩
    · rw [if_neg hc] at h1; cases h1
  | _ => cases h1
def mFld (c f : Str) (m : Ro → W Ex D) : Ro → W Ex D := fun ρ => W.bind (m ρ) (gFld c f)
theorem de_fld {e : Expr} {f c : Str} {C : Addr} {m : Ro → W Ex D} {pos : Pos} (Z : X.K = G.K) (T : ClsD G c C) (nf : NoAttr G.K C f) (he : DE G X Wx e m) (hb : attributeBase e f X.env (eval e X.env) = eval e X.env := by rfl) : DE G X Wx (.Attribute e f pos) (mFld c f m) := by
  refine DE.imp (fun ρ => (he.mono ρ).bind fun _ => gFld_mono _ _ _) (pe_fld he.pe hb) fun N ρ σ H Q r q => ?_
  refine he.go r q (fun x z => z) fun d v H1 z s1 r1 _ => ?_
  obtain ⟨fs, e, rfl, e1, q⟩ := gFld_inv z
  obtain ⟨a, C', dx, gs, ev, hm, ha, rf⟩ := r1
  rw [T.mg] at hm
  cases hm
  obtain ⟨w, e2, r2⟩ := rf.look e1
  exact ⟨a, C, dx, gs, w, ev, ha, Z ▸ T.cl, Z ▸ nf, e2, q w H1 s1 r2⟩

/-! ### tests -/
def asB (d : D) : W Ex Bool := match d with
  | .bl b => W.ret b
  | _ => W.fail
theorem asB_mono (d : D) : W.Mono (asB d) := by
  unfold asB
  split
  · exact W.Mono.ret
  · exact W.Mono.fail
theorem asB_inv {d : D} {Q : Bool → Prop} {E : Ex → Prop} (h : asB d Q E) : ∃ b, d = .bl b ∧ Q b := by
  cases d with
  | bl b => exact ⟨b, rfl, h⟩
  | _ => exact h.elim
def mTest (m : Ro → W Ex D) : Ro → W Ex Bool := fun ρ => W.bind (m ρ) asB
theorem DT.imp2 {e : Expr} {m : Ro → W Ex D} (mono : ∀ ρ, W.Mono (m ρ)) (h : PT X e (tB (tE G Wx m))) : DT G X Wx e (mTest m) :=
  DT.imp (fun ρ => (mono ρ).bind asB_mono) h fun N ρ σ H Q r q => ⟨N, ρ, r, (mono ρ).run (fun d z v H1 s1 r1 => by
    obtain ⟨b, e, q⟩ := asB_inv z
    subst e
    exact ⟨b, r1, q H1 s1⟩) (fun _ z => z) q⟩
theorem dt_val {e : Expr} {m : Ro → W Ex D} (h : DE G X Wx e m) (he : ∀ whole, isTrue e X.env whole = (do let v ← whole; standAt e.pos; holding [v] (truthy v)) := by intro _; rfl) : DT G X Wx e (mTest m) := DT.imp2 h.mono (pt_val h.pe he)
theorem dt_cmp {op : CmpOp} {a b : Expr} {m n : Ro → W Ex D} {r : R2} {g : D → D → W Ex D} {pos : Pos} (ho : OpR X (compareOp op) r) (hg : DOp G X r g) (ha : DE G X Wx a m) (hb : DE G X Wx b n) (hm : behindInMarks op b = false) : DT G X Wx (.Compare a [op] [b] pos) (mTest (mOp g m n)) := by
  refine DT.imp (fun ρ => (mOp_mono hg ha hb ρ).bind asB_mono) (pt_cmpR ho ha.pe hb.pe hm) fun N ρ σ H Q rr q => ?_
  refine op_two (Q := fun x H' => ∃ k, x = .bl k ∧ Q k H') hg ha hb rr ((mOp_mono hg ha hb ρ).run (fun d z v H1 s1 r1 => ?_) (fun _ z => z) q)
  obtain ⟨b, e, q⟩ := asB_inv z
  subst e
  exact ⟨b, r1, q H1 s1⟩
/-- a op b op' c -/
def mChain (g g' : D → D → W Ex D) (m n o : Ro → W Ex D) : Ro → W Ex D := fun ρ => W.bind (m ρ) fun a => W.bind (n ρ) fun b => W.bind (W.calm (g a b)) fun t => W.bind (asB t) fun k => if k = true then W.bind (o ρ) fun c => W.calm (g' b c) else W.ret (.bl false)
theorem chain_mono {a b c : Expr} {m n o : Ro → W Ex D} {r r' : R2} {g g' : D → D → W Ex D} (hg : DOp G X r g) (hg' : DOp G X r' g') (ha : DE G X Wx a m) (hb : DE G X Wx b n) (hc : DE G X Wx c o) (ρ : Ro) : W.Mono (mChain g g' m n o ρ) :=
  (ha.mono ρ).bind fun d => (hb.mono ρ).bind fun e => (hg.1 d e).calm.bind fun t => (asB_mono t).bind fun k => ite_mono ((hc.mono ρ).bind fun c => (hg'.1 e c).calm) W.Mono.ret
theorem chain_go {a b c : Expr} {m n o : Ro → W Ex D} {r r' : R2} {g g' : D → D → W Ex D} (hg : DOp G X r g) (hg' : DOp G X r' g') (ha : DE G X Wx a m) (hb : DE G X Wx b n) (hc : DE G X Wx c o) {N : Addr → Prop} {ρ : Ro} {σ : Fb.St} {H : Hp} {Q : VK} (rr : ERel G N H σ ρ)
    (q : mChain g g' m n o ρ (PoE G N H Q) (PoX G N Wx H σ)) : tChain r r' (tE G Wx m) (tE G Wx n) (tE G Wx o) σ H Q := by
  refine ha.go rr q (fun x z => z) fun d v H1 z s1 r1 rr1 => ?_
  refine hb.go rr1 z (fun x z => z.step s1) fun e u H2 z s2 r2 rr2 => ?_
  have r1' := r1.same s2
  have r2' : Rep G (Fr N H) H2 e u := r2.sub fun _ z => z.step s1
  refine hg.2 (Fr N H) H2 d e v u _ r1' r2' ((hg.1 d e).run (fun t z w H3 s3 r3 => ?_) (fun _ z => z) z)
  obtain ⟨k, e1, z⟩ := asB_inv z
  subst e1
  refine ⟨k, r3, ?_⟩
  cases k with
  | false => exact z (.bl false) H3 ((s1.trans s2).trans s3) rfl
  | true =>
    refine hc.go (rr2.same s3) z (fun x z => z.step ((s1.trans s2).trans s3)) fun c w' H4 z s4 r4 _ => ?_
    refine hg'.2 (Fr N H) H4 e c u w' Q ((r2'.same s3).same s4) (r4.sub fun _ z => z.step ((s1.trans s2).trans s3)) ((hg'.1 e c).run (fun t z w H5 s5 r5 => ?_) (fun _ z => z) z)
    exact z w H5 ((((s1.trans s2).trans s3).trans s4).trans s5) (r5.sub fun _ y => y.fr (((s1.trans s2).trans s3).trans s4))
theorem de_chain {op op' : CmpOp} {a b c : Expr} {m n o : Ro → W Ex D} {r r' : R2} {g g' : D → D → W Ex D} {pos : Pos} (ho : OpR X (compareOp op) r) (ho' : OpR X (compareOp op') r') (hg : DOp G X r g) (hg' : DOp G X r' g') (ha : DE G X Wx a m) (hb : DE G X Wx b n) (hc : DE G X Wx c o)
    (hm : lastMarks [op, op'] [b, c] = false := by with_unfolding_all rfl) : DE G X Wx (.Compare a [op, op'] [b, c] pos) (mChain g g' m n o) :=
  DE.imp (chain_mono hg hg' ha hb hc) (pe_chain ho ho' ha.pe hb.pe hc.pe hm) fun N ρ σ H Q rr q => chain_go hg hg' ha hb hc rr q
theorem dt_chain {op op' : CmpOp} {a b c : Expr} {m n o : Ro → W Ex D} {r r' : R2} {g g' : D → D → W Ex D} {pos : Pos} (ho : OpR X (compareOp op) r) (ho' : OpR X (compareOp op') r') (hg : DOp G X r g) (hg' : DOp G X r' g') (ha : DE G X Wx a m) (hb : DE G X Wx b n) (hc : DE G X Wx c o)
    (hm : lastMarks [op, op'] [b, c] = false := by with_unfolding_all rfl) : DT G X Wx (.Compare a [op, op'] [b, c] pos) (mTest (mChain g g' m n o)) := by
  refine DT.imp (fun ρ => (chain_mono hg hg' ha hb hc ρ).bind asB_mono) (pt_chain ho ho' ha.pe hb.pe hc.pe hm) fun N ρ σ H Q rr q => ?_
  refine chain_go (Q := fun x H' => ∃ k, x = .bl k ∧ Q k H') hg hg' ha hb hc rr ((chain_mono hg hg' ha hb hc ρ).run (fun d z v H1 s1 r1 => ?_) (fun _ z => z) q)
  obtain ⟨b, e, q⟩ := asB_inv z
  subst e
  exact ⟨b, r1, q H1 s1⟩
/-- and, or as tests -/
structure DW (G : Wd) (X : Cx) (Wx : WX) (e : Expr) (m : Ro → W Ex Bool) : Prop where
  pw : PW X e (tT G Wx m)
  mono : ∀ ρ, W.Mono (m ρ)
theorem DW.dt {e : Expr} {m : Ro → W Ex Bool} (h : DW G X Wx e m) : DT G X Wx e m := ⟨h.pw.pt, h.mono⟩
def mAnd (m n : Ro → W Ex Bool) : Ro → W Ex Bool := fun ρ => W.bind (m ρ) fun b => if b = true then n ρ else W.ret false
def mOr (m n : Ro → W Ex Bool) : Ro → W Ex Bool := fun ρ => W.bind (m ρ) fun b => if b = true then W.ret true else n ρ
theorem dw_and1 {a : Expr} {m : Ro → W Ex Bool} {pos : Pos} (h : DT G X Wx a m) : DW G X Wx (.BoolOp .And [a] pos) m := ⟨pw_and1 h.pt, h.mono⟩
theorem dw_or1 {a : Expr} {m : Ro → W Ex Bool} {pos : Pos} (h : DT G X Wx a m) : DW G X Wx (.BoolOp .Or [a] pos) m := ⟨pw_or1 h.pt, h.mono⟩
theorem dw_and {a b : Expr} {rest : List Expr} {m n : Ro → W Ex Bool} {pos : Pos} (h : DT G X Wx a m) (hr : DW G X Wx (.BoolOp .And (b :: rest) pos) n) : DW G X Wx (.BoolOp .And (a :: b :: rest) pos) (mAnd m n) := by
  refine ⟨⟨fun wh pins s σ H Q I ⟨N, ρ, r, q⟩ => (pw_and h.pt hr.pw).run wh pins s σ H Q I ?_⟩, fun ρ => (h.mono ρ).bind fun b => ite_mono (hr.mono ρ) W.Mono.ret⟩
  refine h.go r q (fun x z => z) fun b H1 z s1 rr => ?_
  cases b with
  | true => exact ⟨N, ρ, rr, (hr.mono ρ).run (fun b z H2 s2 => z H2 (s1.trans s2)) (fun x z => z.step s1) z⟩
  | false => exact z H1 s1
theorem dw_or {a b : Expr} {rest : List Expr} {m n : Ro → W Ex Bool} {pos : Pos} (h : DT G X Wx a m) (hr : DW G X Wx (.BoolOp .Or (b :: rest) pos) n) : DW G X Wx (.BoolOp .Or (a :: b :: rest) pos) (mOr m n) := by
  refine ⟨⟨fun wh pins s σ H Q I ⟨N, ρ, r, q⟩ => (pw_or h.pt hr.pw).run wh pins s σ H Q I ?_⟩, fun ρ => (h.mono ρ).bind fun b => ite_mono W.Mono.ret (hr.mono ρ)⟩
  refine h.go r q (fun x z => z) fun b H1 z s1 rr => ?_
  cases b with
  | false => exact ⟨N, ρ, rr, (hr.mono ρ).run (fun b z H2 s2 => z H2 (s1.trans s2)) (fun x z => z.step s1) z⟩
  | true => exact z H1 s1
def mNot (m : Ro → W Ex Bool) : Ro → W Ex Bool := fun ρ => W.bind (m ρ) fun b => W.ret (!b)
theorem dt_not {a : Expr} {m : Ro → W Ex Bool} {pos : Pos} (h : DT G X Wx a m) : DT G X Wx (.UnaryOp .Not a pos) (mNot m) :=
  DT.imp (fun ρ => (h.mono ρ).bind fun _ => W.Mono.ret) (pt_not h.pt) fun N ρ σ H Q r q => h.go r q (fun x z => z) fun b H1 z s1 _ => z H1 s1
/-! ### .. as values -/
def mAndV (m n : Ro → W Ex D) : Ro → W Ex D := fun ρ => W.bind (m ρ) fun d => W.bind (asB d) fun b => if b = true then n ρ else W.ret (.bl false)
def mOrV (m n : Ro → W Ex D) : Ro → W Ex D := fun ρ => W.bind (m ρ) fun d => W.bind (asB d) fun b => if b = true then W.ret (.bl true) else n ρ
def mNotV (m : Ro → W Ex D) : Ro → W Ex D := fun ρ => W.bind (m ρ) fun d => W.bind (asB d) fun b => W.ret (.bl (!b))
theorem de_one {op : BoolOp} {a : Expr} {m : Ro → W Ex D} {pos : Pos} (h : DE G X Wx a m) : DE G X Wx (.BoolOp op [a] pos) m := ⟨pe_one h.pe, h.mono⟩
theorem de_and {a b : Expr} {rest : List Expr} {m n : Ro → W Ex D} {pos : Pos} (h : DE G X Wx a m) (hr : DE G X Wx (.BoolOp .And (b :: rest) pos) n) : DE G X Wx (.BoolOp .And (a :: b :: rest) pos) (mAndV m n) := by
  refine DE.imp (fun ρ => (h.mono ρ).bind fun d => (asB_mono d).bind fun b => ite_mono (hr.mono ρ) W.Mono.ret) (pe_and h.pe hr.pe) fun N ρ σ H Q r q => ?_
  refine h.go r q (fun x z => z) fun d v H1 z s1 r1 rr => ?_
  obtain ⟨b, e, z⟩ := asB_inv z
  subst e
  refine ⟨b, r1, ?_⟩
  cases b with
  | true => exact ⟨N, ρ, rr, (hr.mono ρ).run (fun d z v H2 s2 r2 => z v H2 (s1.trans s2) (r2.sub fun _ y => y.step s1)) (fun x z => z.step s1) z⟩
  | false => exact z _ H1 s1 rfl
theorem de_or {a b : Expr} {rest : List Expr} {m n : Ro → W Ex D} {pos : Pos} (h : DE G X Wx a m) (hr : DE G X Wx (.BoolOp .Or (b :: rest) pos) n) : DE G X Wx (.BoolOp .Or (a :: b :: rest) pos) (mOrV m n) := by
  refine DE.imp (fun ρ => (h.mono ρ).bind fun d => (asB_mono d).bind fun b => ite_mono W.Mono.ret (hr.mono ρ)) (pe_or h.pe hr.pe) fun N ρ σ H Q r q => ?_
  refine h.go r q (fun x z => z) fun d v H1 z s1 r1 rr => ?_
  obtain ⟨b, e, z⟩ := asB_inv z
  subst e
  refine ⟨b, r1, ?_⟩
  cases b with
  | false => exact ⟨N, ρ, rr, (hr.mono ρ).run (fun d z v H2 s2 r2 => z v H2 (s1.trans s2) (r2.sub fun _ y => y.step s1)) (fun x z => z.step s1) z⟩
  | true => exact z _ H1 s1 rfl
theorem de_not {a : Expr} {m : Ro → W Ex D} {pos : Pos} (h : DE G X Wx a m) : DE G X Wx (.UnaryOp .Not a pos) (mNotV m) := by
  refine DE.imp (fun ρ => (h.mono ρ).bind fun d => (asB_mono d).bind fun b => W.Mono.ret) (pe_not h.pe) fun N ρ σ H Q r q => ?_
  refine h.go r q (fun x z => z) fun d v H1 z s1 r1 rr => ?_
  obtain ⟨b, e, z⟩ := asB_inv z
  subst e
  exact ⟨b, r1, z _ H1 s1 rfl⟩
/-- a if t else b -/
def mIfE {α : Type} (c : Ro → W Ex Bool) (m n : Ro → W Ex α) : Ro → W Ex α := fun ρ => W.bind (c ρ) fun b => if b = true then m ρ else n ρ
theorem dr_if {c a b : Expr} {mc : Ro → W Ex Bool} {m n : Ro → W Ex (Bool × D)} {pos : Pos} (hc : DT G X Wx c mc) (ha : DR G X Wx a m) (hb : DR G X Wx b n) : DR G X Wx (.IfExp c a b pos) (mIfE mc m n) := by
  refine DR.imp (fun ρ => (hc.mono ρ).bind fun b => ite_mono (ha.mono ρ) (hb.mono ρ)) (pe_ifExp hc.pt ha.pe hb.pe) fun N ρ σ H Q r q => ?_
  refine hc.go r q (fun x z => z) fun t H1 z s1 rr => ?_
  have back : ∀ p, PoR G N H Q p → PoR G N H1 Q p := fun p z v H2 s2 r2 f2 => z v H2 (s1.trans s2) (r2.sub fun _ y => y.step s1) fun w => by
    obtain ⟨a, e1, e2, e3⟩ := f2 w
    exact ⟨a, e1, s1.free e2, e3.mono (fun b y _ => ⟨y.1.step s1, y.2⟩) (Same.refl H2)⟩
  cases t with
  | true => exact ⟨N, ρ, rr, (ha.mono ρ).run back (fun x z => z.step s1) z⟩
  | false => exact ⟨N, ρ, rr, (hb.mono ρ).run back (fun x z => z.step s1) z⟩
theorem de_if {c a b : Expr} {mc : Ro → W Ex Bool} {m n : Ro → W Ex D} {pos : Pos} (hc : DT G X Wx c mc) (ha : DE G X Wx a m) (hb : DE G X Wx b n) : DE G X Wx (.IfExp c a b pos) (mIfE mc m n) := by
  refine DE.imp (fun ρ => (hc.mono ρ).bind fun b => ite_mono (ha.mono ρ) (hb.mono ρ)) (pe_ifExp hc.pt ha.pe hb.pe) fun N ρ σ H Q r q => ?_
  refine hc.go r q (fun x z => z) fun t H1 z s1 rr => ?_
  cases t with
  | true => exact ⟨N, ρ, rr, (ha.mono ρ).run (fun p z v H2 s2 r2 => z v H2 (s1.trans s2) (r2.sub fun _ y => y.step s1)) (fun x z => z.step s1) z⟩
  | false => exact ⟨N, ρ, rr, (hb.mono ρ).run (fun p z v H2 s2 r2 => z v H2 (s1.trans s2) (r2.sub fun _ y => y.step s1)) (fun x z => z.step s1) z⟩

/-! ### displays -/
def szd {α : Type} (ds : List D) (m : W Ex α) : W Ex α := if ds.length ≤ sizeLine then m else W.fail
def mTup (m : Ro → W Ex (List D)) : Ro → W Ex D := fun ρ => W.bind (m ρ) fun ds => szd ds (W.ret (.tup ds))
def mLst (m : Ro → W Ex (List D)) : Ro → W Ex (Bool × D) := fun ρ => W.bind (m ρ) fun ds => szd ds (W.ret (true, .lst ds))
theorem szd_mono {α : Type} {ds : List D} {m : W Ex α} (h : W.Mono m) : W.Mono (szd ds m) := ite_mono h W.Mono.fail
theorem de_tup {es : List Expr} {m : Ro → W Ex (List D)} {k : Nat} {pos : Pos} (h : DA G X Wx es m) : DE G X Wx (.Tuple es k pos) (mTup m) := by
  refine DE.imp (fun ρ => (h.mono ρ).bind fun _ => szd_mono W.Mono.ret) (pe_tup h.pa) fun N ρ σ H Q r q => ?_
  refine h.go r q (fun x z => z) fun ds vs H1 z s1 r1 _ => ?_
  obtain ⟨hz, z⟩ := ite_ret z
  refine ⟨by rw [r1.length]; exact hz, fun p hp => ?_⟩
  have s : Same G H1 (upd H1 p (.tup vs)) := .of fun b o e => by rw [upd_ne (ne_of_none e hp)]; exact e
  exact z (.ref p) _ (s1.trans s) ⟨p, vs, rfl, .inl upd_same, r1.same s⟩
theorem dr_lst {es : List Expr} {m : Ro → W Ex (List D)} {pos : Pos} (h : DA G X Wx es m) : DR G X Wx (.List es pos) (mLst m) := by
  refine DR.imp (fun ρ => (h.mono ρ).bind fun _ => szd_mono W.Mono.ret) (pe_lst h.pa) fun N ρ σ H Q r q => ?_
  refine h.go r q (fun x z => z) fun ds vs H1 z s1 r1 _ => ?_
  obtain ⟨hz, z⟩ := ite_ret z
  exact ⟨by rw [r1.length]; exact hz, fun p hp => new_lst r1 (PoR.step (h := z) s1) p hp⟩
/-- *e, .. -/
def asSeq (d : D) : W Ex (List D) := match d with
  | .tup xs => W.ret xs
  | .lst xs => W.ret xs
  | _ => W.fail
theorem asSeq_mono (d : D) : W.Mono (asSeq d) := by
  unfold asSeq
  split
  · exact W.Mono.ret
  · exact W.Mono.ret
  · exact W.Mono.fail
def mStar (m : Ro → W Ex D) (n : Ro → W Ex (List D)) : Ro → W Ex (List D) := fun ρ => W.bind (m ρ) fun d => W.bind (asSeq d) fun xs => W.bind (n ρ) fun ds => W.ret (xs ++ ds)
theorem da_star {e : Expr} {es : List Expr} {p : Pos} {m : Ro → W Ex D} {n : Ro → W Ex (List D)} (Z : X.K = G.K) (h : DE G X Wx e m) (hs : DA G X Wx es n) (st : starEach (.Starred e p :: es) X.env = (true, eval e X.env) :: starEach es X.env := by rfl) : DA G X Wx (.Starred e p :: es) (mStar m n) := by
  refine DA.imp (fun ρ => (h.mono ρ).bind fun d => (asSeq_mono d).bind fun xs => (hs.mono ρ).bind fun ds => W.Mono.ret) (StX.pa_star h.pe hs.pa st) fun N ρ σ H Q r q => ?_
  refine h.go r q (fun x z => z) fun d v H1 z s1 r1 rr => ?_
  have fin : ∀ (xs : List D) (vs : List V), Reps G (Fr N H) H1 xs vs → (W.bind (n ρ) fun ds => W.ret (xs ++ ds)) (PoA G N H Q) (PoX G N Wx H σ) → tA G Wx n σ H1 fun ys H2 => Q (vs ++ ys) H2 := fun xs vs rx z =>
    hs.go rr z (fun x z => z.step s1) fun ds ws H2 z s2 r2 _ => z (vs ++ ws) H2 (s1.trans s2) ((rx.same s2).app (r2.sub fun _ y => y.step s1))
  cases d with
  | tup xs =>
    obtain ⟨a, vs, e, hq, rx⟩ := r1
    exact ⟨a, vs, e, .inl (Z ▸ hq.sq), fin xs vs rx z⟩
  | lst xs =>
    obtain ⟨a, vs, e, _, hq, rx⟩ := r1
    exact ⟨a, vs, e, .inr (.of hq), fin xs vs rx z⟩
  | _ => exact z.elim
/-- {} -/
def mDic0 : Ro → W Ex (Bool × D) := fun _ => W.ret (true, .dic [])
theorem dr_dic0 {pos : Pos} : DR G X Wx (.Dict [] [] pos) mDic0 :=
  DR.imp (fun _ => W.Mono.ret) pe_dnewK fun N ρ σ H Q r q p hp => new_dic (ds := []) (vs := []) rfl q p hp
end
end Fb
end

section
set_option Elab.async false
set_option linter.all false
set_option maxRecDepth 100000
set_option maxHeartbeats 4000000
/-! Built-in functions and types over data. -/
namespace Fb
open PySem PySem.Spec PyProof.Rows L2

/-- a built-in's reading by data -/
def rD (G : Wd) (g : List D → Rt) : List V → Hp → VK → Prop := fun vs H Q => ∃ N ds, Reps G N H ds vs ∧ g ds (PoR G N H Q) (fun _ => False)
def mBlt (g : List D → Rt) (m : Ro → W Ex (List D)) : Ro → W Ex (Bool × D) := fun ρ => W.bind (m ρ) fun ds => W.calm (g ds)
section
variable {G : Wd} {X : Cx} {Wx : WX}
theorem blt_go {es : List Expr} {m : Ro → W Ex (List D)} {g : List D → Rt} (hg : ∀ ds, W.Mono (g ds)) (ha : DA G X Wx es m) {N : Addr → Prop} {ρ : Ro} {σ : Fb.St} {H : Hp} {Q : VK} (r : ERel G N H σ ρ) (q : mBlt g m ρ (PoR G N H Q) (PoX G N Wx H σ)) : tCB (rD G g) (tA G Wx m) σ H Q :=
  ha.go r q (fun x z => z) fun ds vs H1 z s1 r1 _ => ⟨_, ds, r1, (hg ds).run (fun p z => z.step s1) (fun _ z => z) z⟩
theorem dr_callB {x : Str} {id : String} {e : Expr} {es : List Expr} {p pos : Pos} {m : Ro → W Ex (List D)} {g : List D → Rt} (hg : ∀ ds, W.Mono (g ds)) (hc : CallR X (.builtin id) (rD G g)) (hm : G.mg x = none) (Z : X.mg = G.mg) (hv : bootBuiltins x = some (.builtin id)) (hG : Gl X x) (ha : DA G X Wx (e :: es) m)
    (hn : x ≠ "__name__" := by decide) (hdb : (x == ("__debug__" : Str)) = false := by decide) (he : starEach (e :: es) X.env = (false, eval e X.env) :: starEach es X.env := by rfl) (hpl : (backTo pos (starEach es X.env)).any (·.1) = false := by rfl) : DR G X Wx (.Call (.Name x p) (e :: es) [] pos) (mBlt g m) :=
  DR.imp (fun ρ => (ha.mono ρ).bind fun ds => (hg ds).calm) (pe_callB hc hG (Z ▸ hm) hv ha.pa hn hdb he hpl) fun N ρ σ H Q r q => blt_go hg ha r q
theorem dr_callTy {x : Str} {id : String} {e : Expr} {es : List Expr} {p pos : Pos} {m : Ro → W Ex (List D)} {g : List D → Rt} (hg : ∀ ds, W.Mono (g ds)) (hc : CallR X (.type id) (rD G g)) (hm : G.mg x = none) (Z : X.mg = G.mg) (hv : bootBuiltins x = some (.type id)) (hG : Gl X x) (ha : DA G X Wx (e :: es) m)
    (hn : x ≠ "__name__" := by decide) (hdb : (x == ("__debug__" : Str)) = false := by decide) (he : starEach (e :: es) X.env = (false, eval e X.env) :: starEach es X.env := by rfl) (hpl : (backTo pos (starEach es X.env)).any (·.1) = false := by rfl) : DR G X Wx (.Call (.Name x p) (e :: es) [] pos) (mBlt g m) :=
  DR.imp (fun ρ => (ha.mono ρ).bind fun ds => (hg ds).calm) (pe_callTy hc hG (Z ▸ hm) hv ha.pa hn hdb he hpl) fun N ρ σ H Q r q => blt_go hg ha r q

theorem Reps.one_inv {N : Addr → Prop} {H : Hp} {d : D} {vs : List V} (r : Reps G N H [d] vs) : ∃ v, vs = [v] ∧ Rep G N H d v := by
  obtain ⟨w, ws, e, r1, r2⟩ := r
  rw [show ws = [] from r2] at e
  exact ⟨w, e, r1⟩
theorem Reps.two_inv {N : Addr → Prop} {H : Hp} {d e : D} {vs : List V} (r : Reps G N H [d, e] vs) : ∃ v w, vs = [v, w] ∧ Rep G N H d v ∧ Rep G N H e w := by
  obtain ⟨w, ws, e, r1, r2⟩ := r
  obtain ⟨u, e2, r3⟩ := Reps.one_inv r2
  subst e2
  exact ⟨w, u, e, r1, r3⟩
/-- a built-in of one value without a new object -/
def g1 (f : D → Option D) : List D → Rt := fun ds => match ds with
  | [d] => (match f d with
    | some e => W.ret (false, e)
    | none => W.fail)
  | _ => W.fail
theorem g1_mono (f : D → Option D) (ds : List D) : W.Mono (g1 f ds) := by
  unfold g1
  split
  · split
    · exact W.Mono.ret
    · exact W.Mono.fail
  · exact W.Mono.fail
theorem g1_inv {f : D → Option D} {ds : List D} {Q : Bool × D → Prop} {E : Ex → Prop} (h : g1 f ds Q E) : ∃ d e, ds = [d] ∧ f d = some e ∧ Q (false, e) := by
  rcases ds with _ | ⟨d, _ | ⟨d', ds⟩⟩
  · exact h.elim
  · have h : (match f d with | some e => W.ret (false, e) | none => W.fail : Rt) Q E := h
    rcases e : f d with _ | x
    · rw [e] at h; exact h.elim
    · rw [e] at h; exact ⟨d, x, rfl, e, h⟩
  · exact h.elim
theorem cr_g1 {f : Value} {r : V → Hp → VK → Prop} {g : D → Option D} (hf : ∀ (pins : List (Addr × Obj)) (s : Shared) (σ : L2.St) (H : Hp) (N : Addr → Prop) (d e : D) (x : V) (u : Value) (Q : VK), Inv X pins σ H s → RelV x u → Rep G N H d x → g d = some e → (∀ v, Rep G (Fr N H) H e v → Q v H) →
    wpAny (model X.prog X.w) X.A (call f [u]) (EP X pins σ Q) X.xe s) : CallR X f (rD G (g1 g)) := by
  intro pins s σ H xs us Q I r h
  obtain ⟨N, ds, rr, q⟩ := h
  obtain ⟨d, e, rfl, e1, q⟩ := g1_inv q
  obtain ⟨v, rfl, r1⟩ := rr.one_inv
  obtain ⟨u, rfl, rx⟩ := vals1 r
  exact hf pins s σ H N d e v u Q I rx r1 e1 fun w rw' => q w H (Same.refl H) rw' fun z => nomatch z

/-! ### len, str, int, abs -/
def lenD : D → Option D
  | .str x => if x.length ≤ sizeLine then some (.int x.length) else none
  | .tup xs => some (.int xs.length)
  | .lst xs => some (.int xs.length)
  | .dic xs => some (.int xs.length)
  | .scr ns => some (.int ns.length)
  | _ => none
theorem bl_len (Z : X.K = G.K) : CallR X (.builtin "len") (rD G (g1 lenD)) := cr_g1 (r := fun _ _ _ => True) fun pins s σ H N d e x u Q I rx rd h q => by
  cases d with
  | str z =>
    have h : (if z.length ≤ sizeLine then some (D.int z.length) else none) = some e := h
    by_cases hz : z.length ≤ sizeLine
    · rw [if_pos hz] at h
      cases h
      exact call_len_str pins s σ H [x] [u] Q I (.cons rx .nil) ⟨z, by rw [show x = .str z from rd], hz, q _ rfl⟩
    · rw [if_neg hz] at h; cases h
  | tup ds =>
    obtain ⟨a, vs, ev, hq, rs⟩ := rd
    cases (show some (D.int ds.length) = some e from h)
    exact call_len_seq pins s σ H [x] [u] Q I (.cons rx .nil) ⟨a, vs, by rw [ev], .inr (Z ▸ hq.sq), q _ (by rw [rs.length]; rfl)⟩
  | lst ds =>
    obtain ⟨a, vs, ev, n, hq, rs⟩ := rd
    cases (show some (D.int ds.length) = some e from h)
    exact call_len_seq pins s σ H [x] [u] Q I (.cons rx .nil) ⟨a, vs, by rw [ev], .inl (.of hq), q _ (by rw [rs.length]; rfl)⟩
  | dic ds =>
    obtain ⟨a, vs, ev, n, hq, rs⟩ := rd
    cases (show some (D.int ds.length) = some e from h)
    subst ev
    obtain rfl : u = Value.ref a := rx
    exact d_len I hq fun t s' I' => ⟨.int vs.length, H, I', ⟨t, rfl⟩, q _ (by rw [rs.length]; rfl)⟩
  | scr ns =>
    obtain ⟨a, ev, hq⟩ := rd
    cases (show some (D.int ns.length) = some e from h)
    exact call_len_seq pins s σ H [x] [u] Q I (.cons rx .nil) ⟨a, _, by rw [ev], .inl (Z ▸ hq.sq), q _ (by rw [List.length_map]; rfl)⟩
  | _ => cases h
def strD : D → Option D
  | .str x => some (.str x)
  | .int i => if i.natAbs.log2 < 1920 then some (.str (toString i)) else none
  | _ => none
theorem bl_str : CallR X (.type "str") (rD G (g1 strD)) := cr_g1 (r := fun _ _ _ => True) fun pins s σ H N d e x u Q I rx rd h q => by
  cases d with
  | str z =>
    cases (show some (D.str z) = some e from h)
    exact SkE.call_str_str pins s σ H [x] [u] Q I (.cons rx .nil) ⟨z, by rw [show x = .str z from rd], q _ rfl⟩
  | int i =>
    have h : (if i.natAbs.log2 < 1920 then some (D.str (toString i)) else none) = some e := h
    by_cases hz : i.natAbs.log2 < 1920
    · rw [if_pos hz] at h
      cases h
      exact call_str_int pins s σ H [x] [u] Q I (.cons rx .nil) ⟨i, by rw [show x = .int i from rd], hz, q _ rfl⟩
    · rw [if_neg hz] at h; cases h
  | _ => cases h
def intD : D → Option D
  | .int i => some (.int i)
  | .bl b => some (.int (if b then 1 else 0))
  | .str x => if x.length ≤ 640 then (PySem.intText? x).map .int else none
  | _ => none
theorem bl_int : CallR X (.type "int") (rD G (g1 intD)) := cr_g1 (r := fun _ _ _ => True) fun pins s σ H N d e x u Q I rx rd h q => by
  cases d with
  | int i =>
    cases (show some (D.int i) = some e from h)
    exact call_int1 pins s σ H [x] [u] Q I (.cons rx .nil) (.inl ⟨i, by rw [show x = .int i from rd], q _ rfl⟩)
  | bl b =>
    cases (show some (D.int (if b then 1 else 0)) = some e from h)
    exact call_int1 pins s σ H [x] [u] Q I (.cons rx .nil) (.inr ⟨b, by rw [show x = .bl b from rd], q _ rfl⟩)
  | str z =>
    have h : (if z.length ≤ 640 then (PySem.intText? z).map D.int else none) = some e := h
    by_cases hz : z.length ≤ 640
    · rw [if_pos hz] at h
      rcases en : PySem.intText? z with _ | n
      · rw [en] at h; cases h
      · rw [en] at h
        cases h
        exact call_int_str pins s σ H [x] [u] Q I (.cons rx .nil) ⟨z, n, by rw [show x = .str z from rd], en, hz, q _ rfl⟩
    · rw [if_neg hz] at h; cases h
  | _ => cases h
def absD : D → Option D
  | .int i => some (.int (if i < 0 then -i else i))
  | _ => none
theorem bl_abs : CallR X (.builtin "abs") (rD G (g1 absD)) := cr_g1 (r := fun _ _ _ => True) fun pins s σ H N d e x u Q I rx rd h q => by
  cases d with
  | int i =>
    cases (show some (D.int (if i < 0 then -i else i)) = some e from h)
    exact call_abs pins s σ H [x] [u] Q I (.cons rx .nil) ⟨i, by rw [show x = .int i from rd], q _ rfl⟩
  | _ => cases h

/-! ### all, any -/
def blsOf : List D → Option (List Bool)
  | [] => some []
  | .bl b :: r => (blsOf r).map (b :: ·)
  | _ :: _ => none
theorem Reps.bls {N : Addr → Prop} {H : Hp} : ∀ {ds : List D} {vs : List V} {bs : List Bool}, Reps G N H ds vs → blsOf ds = some bs → vs = bs.map V.bl
  | [], _, _, h, e => by cases e; exact h
  | d :: ds, _, bs, ⟨w, ws, ev, r, rs⟩, e => by
    cases d <;> first | (cases e; done) | skip
    rename_i b
    have e : (blsOf ds).map (b :: ·) = some bs := e
    rcases e2 : blsOf ds with _ | cs
    · rw [e2] at e; cases e
    · rw [e2] at e
      cases e
      rw [ev, show w = .bl b from r, Reps.bls rs e2]
      rfl
def allD : D → Option D
  | .lst ds => (blsOf ds).map fun bs => .bl (bs.all id)
  | _ => none
def anyD : D → Option D
  | .lst ds => (blsOf ds).map fun bs => .bl (bs.any id)
  | _ => none
theorem bl_all (hc : X.calm = true) : CallR X (.builtin "all") (rD G (g1 allD)) := cr_g1 (r := fun _ _ _ => True) fun pins s σ H N d e x u Q I rx rd h q => by
  cases d with
  | lst ds =>
    have h : (blsOf ds).map (fun bs => D.bl (bs.all id)) = some e := h
    rcases eb : blsOf ds with _ | bs
    · rw [eb] at h; cases h
    · rw [eb] at h
      cases h
      obtain ⟨a, vs, ev, n, hq, rs⟩ := rd
      exact cr_all hc pins s σ H [x] [u] Q I (.cons rx .nil) ⟨a, bs, by rw [ev], .of (by rw [← rs.bls eb]; exact hq), q _ rfl⟩
  | _ => cases h
theorem bl_any (hc : X.calm = true) : CallR X (.builtin "any") (rD G (g1 anyD)) := cr_g1 (r := fun _ _ _ => True) fun pins s σ H N d e x u Q I rx rd h q => by
  cases d with
  | lst ds =>
    have h : (blsOf ds).map (fun bs => D.bl (bs.any id)) = some e := h
    rcases eb : blsOf ds with _ | bs
    · rw [eb] at h; cases h
    · rw [eb] at h
      cases h
      obtain ⟨a, vs, ev, n, hq, rs⟩ := rd
      exact cr_any hc pins s σ H [x] [u] Q I (.cons rx .nil) ⟨a, bs, by rw [ev], .of (by rw [← rs.bls eb]; exact hq), q _ rfl⟩
  | _ => cases h

/-! ### min, max of two or of a list of ints; isinstance -/
def intsOf : List D → Option (List Int)
  | [] => some []
  | .int b :: r => (intsOf r).map (b :: ·)
  | _ :: _ => none
def mmL (mx : Bool) : List Int → Option Int
  | [] => none
  | n :: ns => some (ns.foldl (fun a b => if mx then max a b else min a b) n)
def gMM (mx : Bool) : List D → Rt := fun ds => match ds with
  | [.int i, .int j] => W.ret (false, .int (if mx then (if j > i then j else i) else (if j < i then j else i)))
  | [.lst xs] => (match (intsOf xs).bind (mmL mx) with
    | some n => W.ret (false, .int n)
    | none => W.fail)
  | _ => W.fail
theorem gMM_mono (mx : Bool) (ds : List D) : W.Mono (gMM mx ds) := by
  unfold gMM
  split
  · exact W.Mono.ret
  · split
    · exact W.Mono.ret
    · exact W.Mono.fail
  · exact W.Mono.fail
theorem gMM_inv {mx : Bool} {ds : List D} {Q : Bool × D → Prop} {E : Ex → Prop} (h : gMM mx ds Q E) :
    (∃ i j, ds = [.int i, .int j] ∧ Q (false, .int (if mx then (if j > i then j else i) else (if j < i then j else i)))) ∨ ∃ xs n ns, ds = [.lst xs] ∧ intsOf xs = some (n :: ns) ∧ Q (false, .int (ns.foldl (fun a b => if mx then max a b else min a b) n)) := by
  rcases ds with _ | ⟨d, _ | ⟨e, _ | ⟨f, ds⟩⟩⟩
  · exact h.elim
  · cases d <;> first | exact h.elim | skip
    rename_i xs
    have h : (match (intsOf xs).bind (mmL mx) with | some n => W.ret (false, .int n) | none => W.fail : Rt) Q E := h
    rcases e : intsOf xs with _ | _ | ⟨n, ns⟩
    · rw [e] at h; exact h.elim
    · rw [e] at h; exact h.elim
    · rw [e] at h; exact .inr ⟨xs, n, ns, rfl, e, h⟩
  · cases d <;> cases e <;> first | exact h.elim | skip
    exact .inl ⟨_, _, rfl, h⟩
  · cases d <;> cases e <;> exact h.elim
theorem Reps.ints {N : Addr → Prop} {H : Hp} : ∀ {ds : List D} {vs : List V} {ns : List Int}, Reps G N H ds vs → intsOf ds = some ns → vs = ns.map V.int
  | [], _, ns, h, e => by cases e; exact h
  | d :: ds, _, ns, ⟨w, ws, ev, r, rs⟩, e => by
    cases d <;> first | (cases e; done) | skip
    rename_i i
    have e : (intsOf ds).map (i :: ·) = some ns := e
    rcases e2 : intsOf ds with _ | cs
    · rw [e2] at e; cases e
    · rw [e2] at e
      cases e
      rw [ev, show w = .int i from r, Reps.ints rs e2]
      rfl
theorem foldl_max (n : Int) (ns : List Int) : ns.foldl max n ∈ n :: ns ∧ ∀ y ∈ n :: ns, y ≤ ns.foldl max n := by
  induction ns generalizing n with
  | nil => simp
  | cons a r ih =>
    rw [List.foldl_cons]
    obtain ⟨h1, h2⟩ := ih (max n a)
    refine ⟨?_, fun y hy => ?_⟩
    · rcases List.mem_cons.mp h1 with e | e
      · rw [e]
        rcases Int.le_total n a with z | z
        · rw [Int.max_eq_right z]; simp
        · rw [Int.max_eq_left z]; simp
      · simp [e]
    · have h3 := h2 (max n a) (by simp)
      have := Int.le_max_left n a
      have := Int.le_max_right n a
      rcases List.mem_cons.mp hy with e | hy
      · omega
      · rcases List.mem_cons.mp hy with e | hy
        · omega
        · exact h2 y (by simp [hy])
theorem foldl_min (n : Int) (ns : List Int) : ns.foldl min n ∈ n :: ns ∧ ∀ y ∈ n :: ns, ns.foldl min n ≤ y := by
  induction ns generalizing n with
  | nil => simp
  | cons a r ih =>
    rw [List.foldl_cons]
    obtain ⟨h1, h2⟩ := ih (min n a)
    refine ⟨?_, fun y hy => ?_⟩
    · rcases List.mem_cons.mp h1 with e | e
      · rw [e]
        rcases Int.le_total n a with z | z
        · rw [Int.min_eq_left z]; simp
        · rw [Int.min_eq_right z]; simp
      · simp [e]
    · have h3 := h2 (min n a) (by simp)
      have := Int.min_le_left n a
      have := Int.min_le_right n a
      rcases List.mem_cons.mp hy with e | hy
      · omega
      · rcases List.mem_cons.mp hy with e | hy
        · omega
        · exact h2 y (by simp [hy])
theorem bl_max (hc : X.calm = true) : CallR X (.builtin "max") (rD G (gMM true)) := by
  intro pins s σ H xs us Q I r h
  obtain ⟨N, ds, rr, q⟩ := h
  rcases gMM_inv q with ⟨i, j, rfl, q⟩ | ⟨xs, n, ns, rfl, e, q⟩
  · obtain ⟨v, w, rfl, r1, r2⟩ := rr.two_inv
    exact call_max2 hc pins s σ H _ us Q I r ⟨i, j, by rw [show v = .int i from r1, show w = .int j from r2], q _ H (Same.refl H) rfl fun z => nomatch z⟩
  · obtain ⟨v, rfl, r1⟩ := rr.one_inv
    obtain ⟨a, vs, ev, _, hq, rs⟩ := r1
    have hm := rs.ints e
    refine cr_max hc pins s σ H _ us Q I r ⟨a, n :: ns, by rw [ev], .of (by rw [← hm]; exact hq), by simp, fun m h1 h2 => ?_⟩
    obtain ⟨g1, g2⟩ := foldl_max n ns
    have : m = ns.foldl max n := Int.le_antisymm (g2 m h1) (h2 _ g1)
    rw [this]
    exact q _ H (Same.refl H) rfl fun z => nomatch z
theorem bl_min (hc : X.calm = true) : CallR X (.builtin "min") (rD G (gMM false)) := by
  intro pins s σ H xs us Q I r h
  obtain ⟨N, ds, rr, q⟩ := h
  rcases gMM_inv q with ⟨i, j, rfl, q⟩ | ⟨xs, n, ns, rfl, e, q⟩
  · obtain ⟨v, w, rfl, r1, r2⟩ := rr.two_inv
    exact call_min2 hc pins s σ H _ us Q I r ⟨i, j, by rw [show v = .int i from r1, show w = .int j from r2], q _ H (Same.refl H) rfl fun z => nomatch z⟩
  · obtain ⟨v, rfl, r1⟩ := rr.one_inv
    obtain ⟨a, vs, ev, _, hq, rs⟩ := r1
    have hm := rs.ints e
    refine cr_min hc pins s σ H _ us Q I r ⟨a, n :: ns, by rw [ev], .of (by rw [← hm]; exact hq), by simp, fun m h1 h2 => ?_⟩
    obtain ⟨g1, g2⟩ := foldl_min n ns
    have : m = ns.foldl min n := Int.le_antisymm (h2 _ g1) (g2 m h1)
    rw [this]
    exact q _ H (Same.refl H) rfl fun z => nomatch z
def tyName : D → Option String
  | .non => some "NoneType"
  | .bl _ => some "bool"
  | .int _ => some "int"
  | .str _ => some "str"
  | .tup _ => some "tuple"
  | .lst _ => some "list"
  | .dic _ => some "dict"
  | _ => none
theorem Rep.tyX {N : Addr → Prop} {H : Hp} {d : D} {v : V} {n : String} (r : Rep G N H d v) (h : tyName d = some n) : TyX G.K H v (.type n) := by
  cases d with
  | non => cases h; rw [show v = .non from r]; exact .base .non
  | bl b => cases h; rw [show v = .bl b from r]; exact .base (.bl b)
  | int b => cases h; rw [show v = .int b from r]; exact .base (.int b)
  | str b => cases h; rw [show v = .str b from r]; exact .base (.str b)
  | tup ds =>
    cases h
    obtain ⟨a, vs, e, q, _⟩ := r
    subst e
    rcases q with q | ⟨o, its, n, q, c, _⟩
    · exact .base (.tup q)
    · exact .kTuple q c
  | lst ds =>
    cases h
    obtain ⟨a, vs, e, _, q, _⟩ := r
    subst e
    exact .base (.lst q)
  | dic ds =>
    cases h
    obtain ⟨a, vs, e, _, q, _⟩ := r
    subst e
    rcases q with q | ⟨o, q⟩
    · exact .base (.dK q)
    · exact .fDict q
  | _ => cases h
def kitAnyS (t : String) : List String → Option Bool
  | [] => some false
  | n :: r => match kitB t n with
    | some true => some true
    | some false => kitAnyS t r
    | none => none
def tysOf : List D → Option (List String)
  | [] => some []
  | .ty n :: r => (tysOf r).map (n :: ·)
  | _ :: _ => none
def isiD (d : D) : D → Option Bool
  | .ty n => (tyName d).bind fun t => kitB t n
  | .tup cs => (tysOf cs).bind fun ns => (tyName d).bind fun t => kitAnyS t ns
  | _ => none
def g2 (f : D → D → Option D) : List D → Rt := fun ds => match ds with
  | [d, e] => (match f d e with
    | some x => W.ret (false, x)
    | none => W.fail)
  | _ => W.fail
theorem g2_mono (f : D → D → Option D) (ds : List D) : W.Mono (g2 f ds) := by
  unfold g2
  split
  · split
    · exact W.Mono.ret
    · exact W.Mono.fail
  · exact W.Mono.fail
theorem g2_inv {f : D → D → Option D} {ds : List D} {Q : Bool × D → Prop} {E : Ex → Prop} (h : g2 f ds Q E) : ∃ d e x, ds = [d, e] ∧ f d e = some x ∧ Q (false, x) := by
  rcases ds with _ | ⟨d, _ | ⟨e, _ | ⟨f', ds⟩⟩⟩
  · exact h.elim
  · exact h.elim
  · have h : (match f d e with | some x => W.ret (false, x) | none => W.fail : Rt) Q E := h
    rcases e2 : f d e with _ | x
    · rw [e2] at h; exact h.elim
    · rw [e2] at h; exact ⟨d, e, x, rfl, e2, h⟩
  · exact h.elim
def gIsi : List D → Rt := g2 fun d c => (isiD d c).map .bl
theorem kitAnyS_of {K : PySem.W.Frag} {t : String} : ∀ {ns : List String} {b : Bool}, kitAnyS t ns = some b → PySem.W.kitAny K (.type t) (ns.map Value.type) = some b
  | [], b, h => by cases h; exact kitAny_nil
  | n :: ns, b, h => by
    have h : (match kitB t n with | some true => some true | some false => kitAnyS t ns | none => none) = some b := h
    rcases e2 : kitB t n with _ | k
    · rw [e2] at h; cases h
    · rw [e2] at h
      have e3 : PySem.W.kitOne K (.type t) (.type n) = some k := kit_ty e2
      cases k with
      | true =>
        cases h
        exact kitAny_cons e3 (fun z => nomatch z) fun _ => rfl
      | false => exact kitAny_cons e3 (fun _ => kitAnyS_of h) fun z => nomatch z
theorem Reps.tys {N : Addr → Prop} {H : Hp} : ∀ {ds : List D} {vs : List V} {ns : List String}, Reps G N H ds vs → tysOf ds = some ns → vs = ns.map V.ty
  | [], _, _, h, e => by cases e; exact h
  | d :: ds, _, bs, ⟨w, ws, ev, r, rs⟩, e => by
    cases d <;> first | (cases e; done) | skip
    rename_i b
    have e : (tysOf ds).map (b :: ·) = some bs := e
    rcases e2 : tysOf ds with _ | cs
    · rw [e2] at e; cases e
    · rw [e2] at e
      cases e
      rw [ev, show w = .ty b from r, Reps.tys rs e2]
      rfl
theorem paired_tys : ∀ ns : List String, Paired ClsV (ns.map V.ty) (ns.map Value.type)
  | [] => .nil
  | n :: ns => .cons (.ty n) (paired_tys ns)
theorem bl_isi (Z : X.K = G.K) : CallR X (.builtin "isinstance") (rD G gIsi) := by
  intro pins s σ H xs us Q I r h
  obtain ⟨N, ds, rr, q⟩ := h
  obtain ⟨d, c, x, rfl, e, q⟩ := g2_inv q
  obtain ⟨v, w, rfl, r1, r2⟩ := rr.two_inv
  rcases eb : isiD d c with _ | b
  · rw [eb] at e; cases e
  · rw [eb] at e
    cases e
    have fin : Q (.bl b) H := q _ H (Same.refl H) rfl fun z => nomatch z
    cases c with
    | ty n =>
      have eb : (tyName d).bind (fun t => kitB t n) = some b := eb
      rcases et : tyName d with _ | t
      · rw [et] at eb; cases eb
      · rw [et] at eb
        exact call_isi pins s σ H _ us Q I r ⟨v, w, .type t, .type n, b, rfl, by rw [show w = .ty n from r2]; exact .ty n, Z ▸ r1.tyX et, kit_ty eb, fin⟩
    | tup cs =>
      have eb : (tysOf cs).bind (fun ns => (tyName d).bind fun t => kitAnyS t ns) = some b := eb
      rcases ec : tysOf cs with _ | ns
      · rw [ec] at eb; cases eb
      · rcases et : tyName d with _ | t
        · rw [ec, et] at eb; cases eb
        · rw [ec, et] at eb
          obtain ⟨tp, vs, ev, hq, rs⟩ := r2
          have hv := rs.tys ec
          subst ev hv
          rcases hq with hq | ⟨⟨oc, od, odt, osl⟩, its, n, hq, hc, hd, hz, rv⟩
          · exact call_isiT pins s σ H _ us Q I r ⟨v, tp, _, .type t, _, b, rfl, hq, paired_tys ns, Z ▸ r1.tyX et, kitAnyS_of eb, fin⟩
          · have e3 := ClsV.all (paired_tys ns) rv
            have e4 : its = (ns.map Value.type).toArray := by rw [← e3]
            simp only at hc hd
            subst hc hd e4
            exact call_isiK pins s σ H _ us Q I r ⟨v, tp, od, _, n, osl, .type t, b, rfl, Z ▸ hq, Z ▸ r1.tyX et, kitAnyS_of eb, fin⟩
    | _ => cases eb
end
end Fb
end

section
set_option Elab.async false
set_option linter.all false
set_option maxRecDepth 100000
set_option maxHeartbeats 4000000
/-! Walks: what a loop or a block goes over; for; list blocks. -/
namespace Fb
open PySem PySem.Spec PyProof.Rows L2

/-! ### what stays, but for lists and dicts outside N -/
def LeX (N : Addr → Prop) (H H' : Hp) : Prop := ∀ a o, H a = some o → (N a ∨ ¬ isM o) → H' a = some o
section
variable {G : Wd} {N N' : Addr → Prop} {H H' : Hp}
theorem LeX.tupT {K : PySem.W.Frag} (h : LeX N H H') {a : Addr} {xs : List V} (r : TupAt K H a xs) : TupAt K H' a xs := r.elim (fun e => .inl (h a _ e (.inr id))) .inr
theorem LeX.rd (h : LeX N H H') {a : Addr} {ks : List (Key × V)} (n : N a) (r : Rd H a (.dK ks)) : Rd H' a (.dK ks) := by
  rcases r with e | ⟨o, e⟩
  · exact .inl (h a _ e (.inl n))
  · exact .inr ⟨o, h a _ e (.inl n)⟩
theorem LeX.scr {K : PySem.W.Frag} (h : LeX N H H') {a : Addr} {ns : List Int} (r : ScrAt K H a ns) : ScrAt K H' a ns := r.elim (fun ⟨o, e⟩ => .inl ⟨o, h a _ e (.inr id)⟩) .inr
mutual
theorem Rep.monoX (hN : ∀ a, N a → H a ≠ none → N' a) (hL : LeX N H H') : ∀ {d : D} {v : V}, Rep G N H d v → Rep G N' H' d v
  | .non, _, h => h
  | .bl _, _, h => h
  | .int _, _, h => h
  | .str _, _, h => h
  | .tup ds, _, ⟨a, vs, e, q, r⟩ => ⟨a, vs, e, hL.tupT q, Reps.monoX hN hL r⟩
  | .lst ds, _, ⟨a, vs, e, n, q, r⟩ => ⟨a, vs, e, hN a n (Rd.some (.inl q)), hL a _ q (.inl n), Reps.monoX hN hL r⟩
  | .dic kvs, _, ⟨a, ks, e, n, q, r⟩ => ⟨a, ks, e, hN a n (Rd.some q), hL.rd n q, RepK.monoX hN hL r⟩
  | .ins c fs, _, ⟨a, C, dx, gs, e, m, q, r⟩ => ⟨a, C, dx, gs, e, m, hL a _ q (.inr id), RepF.monoX hN hL r⟩
  | .box n, _, ⟨a, e, q⟩ => ⟨a, e, q.imp fun b _ z => hL b _ z (.inr id)⟩
  | .ty _, _, h => h
  | .cls _, _, h => h
  | .raw _, _, h => h
  | .scr _, _, ⟨a, e, q⟩ => ⟨a, e, hL.scr q⟩
  | .clo k _, _, ⟨e, q, r⟩ => ⟨e, hL k.c _ q (.inr id), Reps.monoX hN hL r⟩
theorem Reps.monoX (hN : ∀ a, N a → H a ≠ none → N' a) (hL : LeX N H H') : ∀ {ds : List D} {vs : List V}, Reps G N H ds vs → Reps G N' H' ds vs
  | [], _, h => h
  | _ :: _, _, ⟨w, ws, e, r, rs⟩ => ⟨w, ws, e, Rep.monoX hN hL r, Reps.monoX hN hL rs⟩
theorem RepK.monoX (hN : ∀ a, N a → H a ≠ none → N' a) (hL : LeX N H H') : ∀ {ds : List (Key × D)} {vs : List (Key × V)}, RepK G N H ds vs → RepK G N' H' ds vs
  | [], _, h => h
  | (_, _) :: _, _, ⟨w, ws, e, r, rs⟩ => ⟨w, ws, e, Rep.monoX hN hL r, RepK.monoX hN hL rs⟩
theorem RepF.monoX (hN : ∀ a, N a → H a ≠ none → N' a) (hL : LeX N H H') : ∀ {ds : List (Str × D)} {vs : List (Str × V)}, RepF G N H ds vs → RepF G N' H' ds vs
  | [], _, h => h
  | (_, _) :: _, _, ⟨w, ws, e, r, rs⟩ => ⟨w, ws, e, Rep.monoX hN hL r, RepF.monoX hN hL rs⟩
end
/-- a part of the heap with all that N needs -/
structure Part (N : Addr → Prop) (HP H : Hp) : Prop where
  sub : ∀ a o, HP a = some o → H a = some o
  has : LeX N H HP
theorem Part.refl {N : Addr → Prop} {H : Hp} : Part N H H := ⟨fun _ _ e => e, fun _ _ e _ => e⟩
theorem Rep.part {HP : Hp} (p : Part N HP H) {d : D} {v : V} (r : Rep G N H d v) : Rep G (fun a => N a ∧ HP a ≠ none) HP d v :=
  (r.monoX (fun _ n _ => n) p.has).mono (fun _ n y => ⟨n, y⟩) (Le.refl HP)
theorem Reps.part {HP : Hp} (p : Part N HP H) {d : List D} {v : List V} (r : Reps G N H d v) : Reps G (fun a => N a ∧ HP a ≠ none) HP d v :=
  (r.monoX (fun _ n _ => n) p.has).mono (fun _ n y => ⟨n, y⟩) (Le.refl HP)
theorem RepK.part {HP : Hp} (p : Part N HP H) {d : List (Key × D)} {v : List (Key × V)} (r : RepK G N H d v) : RepK G (fun a => N a ∧ HP a ≠ none) HP d v :=
  RepK.mono (fun _ n y => ⟨n, y⟩) (Le.refl HP) (RepK.monoX (fun _ n _ => n) p.has r)
end

/-! ### walks -/
/-- J yields what stands for ds, while a part of the heap with all that N needs stands -/
def Serves (G : Wd) (N : Addr → Prop) (J : It) (ds : List D) (HL : Hp) : Prop := ∀ HP, Part N HP HL → ∀ i H', Same G HP H' →
  (∀ d, ds[i]? = some d → J.go i H' ∧ ∀ x H'', J.yld i H' x H'' → Same G H' H'' ∧ Rep G (fun a => N a ∧ HP a ≠ none) H'' d x) ∧ (ds[i]? = none → J.stop i H')
def PoI (G : Wd) (N : Addr → Prop) (H : Hp) (R : It → Hp → Prop) (ds : List D) : Prop := ∀ J H1, Same G H H1 → Serves G (Fr N H) J ds H1 → R J H1
def tI (G : Wd) (Wx : WX) (m : Ro → W Ex (List D)) : TI := fun σ H R => ∃ N ρ, ERel G N H σ ρ ∧ m ρ (PoI G N H R) (PoX G N Wx H σ)
/-- going over iter yields what m tells -/
structure DI (G : Wd) (X : Cx) (Wx : WX) (tg iter : Expr) (m : Ro → W Ex (List D)) : Prop where
  pi : PI X tg iter (tI G Wx m)
  mono : ∀ ρ, W.Mono (m ρ)
section
variable {G : Wd} {X : Cx} {Wx : WX} {tg : Expr}
theorem DI.imp {iter : Expr} {m : Ro → W Ex (List D)} {t : TI} (mono : ∀ ρ, W.Mono (m ρ)) (h : PI X tg iter t) (i : ∀ N ρ σ H R, ERel G N H σ ρ → m ρ (PoI G N H R) (PoX G N Wx H σ) → t σ H R) : DI G X Wx tg iter m :=
  ⟨⟨fun pins s σ H R I ⟨N, ρ, r, q⟩ => h.run pins s σ H R I (i N ρ σ H R r q)⟩, mono⟩
theorem serves_lst {K : PySem.W.Frag} {N : Addr → Prop} {H : Hp} {a : Addr} {ds : List D} {vs : List V} (n : N a) (h : H a = some (.lst vs)) (r : Reps G N H ds vs) : Serves G N (Itl K a) ds H := fun HP p i H' s => by
  have h' : SqL K H' a vs := .of (s.at (p.has a _ h (.inl n)))
  have r' := (r.part p).same s
  refine ⟨fun d e => ?_, fun e => ⟨vs, h', ?_⟩⟩
  · obtain ⟨v, e1, r1⟩ := r'.get' e
    refine ⟨⟨vs, v, h', e1⟩, fun x H'' y => ?_⟩
    obtain ⟨rfl, y⟩ := y
    have := y vs h'
    rw [e1] at this
    cases this
    exact ⟨Same.refl _, r1⟩
  · rw [r.length]; exact List.getElem?_eq_none_iff.mp e
theorem serves_tup {N : Addr → Prop} {H : Hp} {a : Addr} {ds : List D} {vs : List V} (h : TupAt G.K H a vs) (r : Reps G N H ds vs) : Serves G N (Itt G.K a) ds H := fun HP p i H' s => by
  have h' : SqT G.K H' a vs := ((Le.of s).tupT (p.has.tupT h)).sq
  have r' := (r.part p).same s
  refine ⟨fun d e => ?_, fun e => ⟨vs, h', ?_⟩⟩
  · obtain ⟨v, e1, r1⟩ := r'.get' e
    refine ⟨⟨vs, v, h', e1⟩, fun x H'' y => ?_⟩
    obtain ⟨rfl, y⟩ := y
    have := y vs h'
    rw [e1] at this
    cases this
    exact ⟨Same.refl _, r1⟩
  · rw [r.length]; exact List.getElem?_eq_none_iff.mp e
/-- a list or a tuple -/
def mSeqI (m : Ro → W Ex D) : Ro → W Ex (List D) := fun ρ => W.bind (m ρ) asSeq
/-- a walk over one thing or another -/
theorem pi_seq {e : Expr} {te : TE} (he : PE X e te) : PI X tg e (fun σ H R => te σ H fun x H1 => (∃ a, x = .ref a ∧ (∃ xs, SqL X.K H1 a xs) ∧ R (Itl X.K a) H1) ∨ ∃ a, x = .ref a ∧ (∃ xs, SqT X.K H1 a xs) ∧ R (Itt X.K a) H1) := by
  refine ⟨fun pins s σ H R I h => ?_⟩
  have go := he.run pins s σ H _ I h
  refine thn go fun v s1 ⟨x, H1, I1, r1, q1⟩ => ?_
  rcases q1 with ⟨a, e, ⟨xs, hq⟩, q⟩ | ⟨a, e, ⟨xs, hq⟩, q⟩
  · subst e
    cases r1
    obtain ⟨its, rv, p, hz⟩ := I1.list hq
    refine wpAny_pyIter_list p.isList ?_
    refine ⟨s1.heap.objs.size, [s1.heap.objs.size], _, _, H1, rfl, I1.kept (t' := s1.toks) fun b o e => Heap.get?_push_of_some _ e, turn_list a _, ⟨_, Heap.get?_push_size _ rfl, rfl, rfl⟩, fun b hb => ?_, q⟩
    have e : b = s1.heap.objs.size := by simpa using hb
    subst e
    exact I1.fpOk (Nat.le_refl _) (I1.hok.fresh (Nat.le_refl _))
  · subst e
    cases r1
    obtain ⟨its, rv, p, hz⟩ := I1.tuple hq
    refine wpAny_pyIter_tuple (show s1.heap.IsTuple a its.toArray from p) ?_
    refine ⟨s1.heap.objs.size, [s1.heap.objs.size], _, _, H1, rfl, I1.kept (t' := s1.toks) fun b o e => Heap.get?_push_of_some _ e, turn_tuple a _, ⟨_, Heap.get?_push_size _ rfl, rfl, rfl⟩, fun b hb => ?_, q⟩
    have e : b = s1.heap.objs.size := by simpa using hb
    subst e
    exact I1.fpOk (Nat.le_refl _) (I1.hok.fresh (Nat.le_refl _))
theorem di_seq {e : Expr} {m : Ro → W Ex D} (Z : X.K = G.K) (he : DE G X Wx e m) : DI G X Wx tg e (mSeqI m) := by
  refine DI.imp (fun ρ => (he.mono ρ).bind fun d => asSeq_mono d) (pi_seq he.pe) fun N ρ σ H R r q => ?_
  refine he.go r q (fun x z => z) fun d v H1 z s1 r1 _ => ?_
  cases d with
  | lst ds =>
    obtain ⟨a, vs, ev, n, h, rs⟩ := r1
    exact .inl ⟨a, ev, ⟨vs, .of h⟩, z _ H1 s1 (serves_lst n h rs)⟩
  | tup ds =>
    obtain ⟨a, vs, ev, h, rs⟩ := r1
    exact .inr ⟨a, ev, ⟨vs, Z ▸ h.sq⟩, z _ H1 s1 (Z ▸ serves_tup h rs)⟩
  | _ => exact z.elim
/-- range -/
def rngD (lo : Int) (n : Nat) : List D := (List.range n).map fun (k : Nat) => D.int (lo + k)
theorem serves_rng {N : Addr → Prop} {H : Hp} {lo : Int} {n : Nat} : Serves G N (Itr lo n) (rngD lo n) H := fun HP p i H' s => by
  unfold rngD
  rw [List.getElem?_map]
  by_cases h : i < n
  · rw [List.getElem?_range h]
    refine ⟨fun d e => ?_, fun e => nomatch e⟩
    cases e
    refine ⟨h, fun x H'' y => ?_⟩
    obtain ⟨y1, y2⟩ := (show H'' = H' ∧ x = .int (lo + i) from y)
    subst y1 y2
    exact ⟨Same.refl _, rfl⟩
  · have : (List.range n)[i]? = none := by rw [List.getElem?_eq_none_iff]; simpa using h
    rw [this]
    exact ⟨fun d e => (nomatch e), fun _ => Nat.le_of_not_lt h⟩
def rng1D : List D → W Ex (List D)
  | [.int j] => if -(2 ^ 62) ≤ j ∧ j < 2 ^ 62 then W.ret (rngD 0 j.toNat) else W.fail
  | _ => W.fail
def rng2D : List D → W Ex (List D)
  | [.int i, .int j] => if -(2 ^ 62) ≤ i ∧ i < 2 ^ 62 ∧ -(2 ^ 62) ≤ j ∧ j < 2 ^ 62 then W.ret (rngD i (j - i).toNat) else W.fail
  | _ => W.fail
theorem rng1D_mono (ds : List D) : W.Mono (rng1D ds) := by
  unfold rng1D
  split
  · exact ite_mono W.Mono.ret W.Mono.fail
  · exact W.Mono.fail
theorem rng2D_mono (ds : List D) : W.Mono (rng2D ds) := by
  unfold rng2D
  split
  · exact ite_mono W.Mono.ret W.Mono.fail
  · exact W.Mono.fail
def mRng1 (m : Ro → W Ex (List D)) : Ro → W Ex (List D) := fun ρ => W.bind (m ρ) rng1D
def mRng2 (m : Ro → W Ex (List D)) : Ro → W Ex (List D) := fun ρ => W.bind (m ρ) rng2D
theorem rng1_inv {ds : List D} {Q : List D → Prop} {E : Ex → Prop} (h : rng1D ds Q E) : ∃ j, ds = [.int j] ∧ (-(2 ^ 62) ≤ j ∧ j < 2 ^ 62) ∧ Q (rngD 0 j.toNat) := by
  unfold rng1D at h
  split at h
  · obtain ⟨h1, h2⟩ := ite_ret h
    exact ⟨_, rfl, h1, h2⟩
  · exact h.elim
theorem rng2_inv {ds : List D} {Q : List D → Prop} {E : Ex → Prop} (h : rng2D ds Q E) : ∃ i j, ds = [.int i, .int j] ∧ (-(2 ^ 62) ≤ i ∧ i < 2 ^ 62 ∧ -(2 ^ 62) ≤ j ∧ j < 2 ^ 62) ∧ Q (rngD i (j - i).toNat) := by
  unfold rng2D at h
  split at h
  · obtain ⟨h1, h2⟩ := ite_ret h
    exact ⟨_, _, rfl, h1, h2⟩
  · exact h.elim
theorem di_rng1 {a : Expr} {m : Ro → W Ex (List D)} {p pos : Pos} (Z : X.mg = G.mg) (hg : Gl X "range") (hm : G.mg "range" = none) (ha : DA G X Wx [a] m) (hs : starEach [a] X.env = [(false, eval a X.env)] := by rfl) : DI G X Wx tg (.Call (.Name "range" p) [a] [] pos) (mRng1 m) := by
  refine DI.imp (fun ρ => (ha.mono ρ).bind fun d => rng1D_mono d) (pi_range1 hg (Z ▸ hm) ha.pa hs) fun N ρ σ H R r q => ?_
  refine ha.go r q (fun x z => z) fun ds vs H1 z s1 r1 _ => ?_
  obtain ⟨j, rfl, h1, z⟩ := rng1_inv z
  obtain ⟨v, rfl, rv⟩ := r1.one_inv
  exact ⟨j, by rw [show v = .int j from rv], h1.1, h1.2, z _ H1 s1 serves_rng⟩
theorem di_rng2 {a b : Expr} {m : Ro → W Ex (List D)} {p pos : Pos} (Z : X.mg = G.mg) (hg : Gl X "range") (hm : G.mg "range" = none) (ha : DA G X Wx [a, b] m) (hs : starEach [a, b] X.env = [(false, eval a X.env), (false, eval b X.env)] := by rfl) (hs2 : starEach [b] X.env = [(false, eval b X.env)] := by rfl) : DI G X Wx tg (.Call (.Name "range" p) [a, b] [] pos) (mRng2 m) := by
  refine DI.imp (fun ρ => (ha.mono ρ).bind fun d => rng2D_mono d) (pi_range2 hg (Z ▸ hm) ha.pa hs hs2) fun N ρ σ H R r q => ?_
  refine ha.go r q (fun x z => z) fun ds vs H1 z s1 r1 _ => ?_
  obtain ⟨i, j, rfl, h1, z⟩ := rng2_inv z
  obtain ⟨v, w, rfl, rv, rw'⟩ := r1.two_inv
  exact ⟨i, j, by rw [show v = .int i from rv, show w = .int j from rw'], h1, z _ H1 s1 serves_rng⟩

/-! ### targets -/
def RepB (G : Wd) (N : Addr → Prop) (H : Hp) (bs : List (Nat × D)) (ws : List (Nat × V)) : Prop := Paired (fun b w => b.1 = w.1 ∧ Rep G N H b.2 w.2) bs ws
def setV (σ : Fb.St) : List (Nat × V) → Fb.St
  | [] => σ
  | (i, v) :: r => setV (σ.set i (some v)) r
def setR (ρ : Ro) : List (Nat × D) → Ro
  | [] => ρ
  | (i, d) :: r => setR (ρ.set i (some d)) r
def setE (ρ : En) : List (Nat × D) → En
  | [] => ρ
  | (i, d) :: r => setE (ρ.set i (some (false, d))) r
theorem setV_app (σ : Fb.St) (a b : List (Nat × V)) : setV σ (a ++ b) = setV (setV σ a) b := by
  induction a generalizing σ with
  | nil => rfl
  | cons p r ih => exact ih _
/-- the target stores p of what comes, at slots among sl -/
structure DG (G : Wd) (X : Cx) (tg : Expr) (g : TG) (p : D → Option (List (Nat × D))) (sl : List Nat) : Prop where
  pg : PG X tg g
  st : ∀ N H d v bs σ Q, Rep G N H d v → p d = some bs → (∀ ws, RepB G N H bs ws → Q (setV σ ws) H) → g v σ H Q
  sl : ∀ d bs, p d = some bs → ∀ b ∈ bs, b.1 ∈ sl
structure DGs (G : Wd) (X : Cx) (tg : List Expr) (g : TGs) (p : List D → Option (List (Nat × D))) (sl : List Nat) : Prop where
  pg : PGs X tg g
  st : ∀ N H ds vs bs σ Q, Reps G N H ds vs → p ds = some bs → (∀ ws, RepB G N H bs ws → Q (setV σ ws) H) → g vs σ H Q
  sl : ∀ d bs, p d = some bs → ∀ b ∈ bs, b.1 ∈ sl
def pName (i : Nat) (d : D) : Option (List (Nat × D)) := some [(i, d)]
def pNil : List D → Option (List (Nat × D))
  | [] => some []
  | _ => none
def pCons (p : D → Option (List (Nat × D))) (q : List D → Option (List (Nat × D))) : List D → Option (List (Nat × D))
  | d :: ds => match p d, q ds with
    | some a, some b => some (a ++ b)
    | _, _ => none
  | [] => none
def pTup (n : Nat) (q : List D → Option (List (Nat × D))) : D → Option (List (Nat × D))
  | .tup ds => if ds.length = n then q ds else none
  | _ => none
theorem dg_name {i : Nat} {x : Str} {pos : Pos} (hN : X.N.Nodup) (hi : X.N[i]? = some x) (hx : Loc X.env.scope x) (hf : X.fn x = true ∨ X.env.scope.names.lookup x = some .local := by first | exact .inl rfl | exact .inr rfl | assumption) : DG G X (.Name x pos) (gName i) (pName i) [i] :=
  ⟨pg_name hN hi hx hf, fun N H d v bs σ Q r e h => by
    cases e
    exact h [(i, v)] (.cons ⟨rfl, r⟩ .nil), fun d bs e b hb => by
    cases e
    simp at hb
    simp [hb]⟩
theorem dgs_nil : DGs G X [] gNil pNil [] := by
  refine ⟨pgs_nil, fun N H ds vs bs σ Q r e h => ?_, fun d bs e b hb => ?_⟩
  · cases ds with
    | nil => cases e; exact ⟨r, h [] .nil⟩
    | cons _ _ => cases e
  · cases d with
    | nil => cases e; cases hb
    | cons _ _ => cases e
theorem paired_append {α β : Type} {P : α → β → Prop} : ∀ {a c : List α} {b d : List β}, Paired P a b → Paired P c d → Paired P (a ++ c) (b ++ d)
  | _, _, _, _, .nil, h => h
  | _, _, _, _, .cons h t, h' => .cons h (paired_append t h')
theorem dgs_cons {e : Expr} {es : List Expr} {g : TG} {gs : TGs} {p : D → Option (List (Nat × D))} {q : List D → Option (List (Nat × D))} {a b : List Nat} (h1 : DG G X e g p a) (h2 : DGs G X es gs q b)
    (hs : (assignEach (e :: es) X.env).map (·.2) = assign e X.env :: (assignEach es X.env).map (·.2) := by rfl) : DGs G X (e :: es) (gCons g gs) (pCons p q) (a ++ b) := by
  refine ⟨pgs_cons h1.pg h2.pg hs, fun N H ds vs bs σ Q r e h => ?_, fun ds bs e c hc => ?_⟩
  · cases ds with
    | nil => cases e
    | cons d ds =>
      obtain ⟨w, ws, rfl, r1, r2⟩ := r
      have e : (match p d, q ds with | some a, some b => some (a ++ b) | _, _ => none) = some bs := e
      rcases e1 : p d with _ | b1
      · rw [e1] at e; cases e
      · rcases e2 : q ds with _ | b2
        · rw [e1, e2] at e; cases e
        · rw [e1, e2] at e
          cases e
          refine ⟨w, ws, rfl, h1.st N H d w b1 σ _ r1 e1 fun ws1 h1' => ?_⟩
          refine h2.st N H ds ws b2 _ _ r2 e2 fun ws2 h2' => ?_
          rw [← setV_app]
          exact h _ (paired_append h1' h2')
  · cases ds with
    | nil => cases e
    | cons d ds =>
      have e : (match p d, q ds with | some a, some b => some (a ++ b) | _, _ => none) = some bs := e
      rcases e1 : p d with _ | b1
      · rw [e1] at e; cases e
      · rcases e2 : q ds with _ | b2
        · rw [e1, e2] at e; cases e
        · rw [e1, e2] at e
          cases e
          rcases List.mem_append.mp hc with hc | hc
          · exact List.mem_append_left _ (h1.sl _ _ e1 _ hc)
          · exact List.mem_append_right _ (h2.sl _ _ e2 _ hc)
theorem dg_tup {es : List Expr} {k n : Nat} {gs : TGs} {q : List D → Option (List (Nat × D))} {a : List Nat} {pos : Pos} (Z : X.K = G.K) (hc : X.calm = true) (h : DGs G X es gs q a) (hn : (assignEach es X.env).length = n := by rfl) (hst : (assignEach es X.env).findIdx? (·.1) = none := by rfl) :
    DG G X (.Tuple es k pos) (gTup G.K n gs) (pTup n q) a := by
  rw [← Z]
  refine ⟨pg_tup hc h.pg hn hst, fun N H d v bs σ Q r e hQ => ?_, fun d bs e b hb => ?_⟩
  · cases d <;> first | (cases e; done) | skip
    rename_i ds
    have e : (if ds.length = n then q ds else none) = some bs := e
    by_cases hl : ds.length = n
    · rw [if_pos hl] at e
      obtain ⟨t, vs, ev, ht, rs⟩ := r
      exact ⟨t, vs, ev, Z ▸ ht.sq, rs.length.trans hl, h.st N H ds vs bs σ Q rs e hQ⟩
    · rw [if_neg hl] at e; cases e
  · cases d <;> first | (cases e; done) | skip
    rename_i ds
    have e : (if ds.length = n then q ds else none) = some bs := e
    by_cases hl : ds.length = n
    · rw [if_pos hl] at e; exact h.sl _ _ e _ hb
    · rw [if_neg hl] at e; cases e

/-! ### for -/
theorem setE_len : ∀ {bs : List (Nat × D)} {ρ : En}, (setE ρ bs).length = ρ.length
  | [], _ => rfl
  | (i, d) :: r, ρ => (setE_len (bs := r)).trans (List.length_set ..)
theorem setV_len : ∀ {bs : List (Nat × V)} {ρ : Fb.St}, (setV ρ bs).length = ρ.length
  | [], _ => rfl
  | (i, d) :: r, ρ => (setV_len (bs := r)).trans (List.length_set ..)
theorem RepB.mono' {N N' : Addr → Prop} {H : Hp} (hN : ∀ a, N a → H a ≠ none → N' a) : ∀ {bs : List (Nat × D)} {ws : List (Nat × V)}, RepB G N H bs ws → RepB G N' H bs ws
  | _, _, .nil => .nil
  | _, _, .cons h t => .cons ⟨h.1, h.2.mono hN (Le.refl H)⟩ (RepB.mono' hN t)
/-- the items of a walk are stored -/
theorem SRel.setE {H0 H : Hp} {N0 N : Addr → Prop} (hN : ∀ a, N a → N0 a ∧ H0 a ≠ none) : ∀ {bs : List (Nat × D)} {ws : List (Nat × V)} {σ : Fb.St} {ρ : En}, SRel G H0 N0 σ H ρ → RepB G N H bs ws → SRel G H0 N0 (setV σ ws) H (setE ρ bs)
  | _, _, _, _, x, .nil => x
  | _, _, σ, ρ, x, .cons (a := b) (b := w) h t => by
    obtain ⟨i, d⟩ := b
    obtain ⟨j, v⟩ := w
    obtain ⟨e, r⟩ := h
    obtain rfl : i = j := e
    refine SRel.setE hN (bs := _) (ws := _) (σ := σ.set i (some v)) (ρ := ρ.set i (some (false, d))) ?_ t
    obtain ⟨S, o⟩ := x.own
    refine ⟨x.same, by rw [List.length_set, List.length_set]; exact x.len, _, o.setS x.len (r.mono (fun a n _ => ⟨.inl (hN a n).1, fun j z => (hN a n).2 (o.new j a z).1⟩) (Le.refl H))⟩
def forN (p : D → Option (List (Nat × D))) (b : En → WS) : List D → En → WS
  | [], ρ => W.ret (.nx, ρ)
  | d :: ds, ρ => match p d with
    | none => W.fail
    | some bs => W.bind (b (setE ρ bs)) fun q => match q with
      | (.nx, ρ') => forN p b ds ρ'
      | (.ct, ρ') => forN p b ds ρ'
      | (.bk, ρ') => W.ret (.nx, ρ')
      | (.rt r, ρ') => W.ret (.rt r, ρ')
def mFor (fz : List Nat) (m : Ro → W Ex (List D)) (p : D → Option (List (Nat × D))) (b : En → WS) : En → WS := fun ρ => W.bind (up ρ (m (see fz ρ))) fun ds => forN p b ds (frz fz ρ)
theorem forN_mono {p : D → Option (List (Nat × D))} {b : En → WS} (hb : ∀ ρ, W.Mono (b ρ)) : ∀ ds ρ, W.Mono (forN p b ds ρ)
  | [], _ => W.Mono.ret
  | d :: ds, ρ => by
    unfold forN
    split
    · exact W.Mono.fail
    · refine (hb _).bind fun q => ?_
      obtain ⟨f, ρ'⟩ := q
      cases f with
      | nx => exact forN_mono hb ds ρ'
      | ct => exact forN_mono hb ds ρ'
      | bk => exact W.Mono.ret
      | rt r => exact W.Mono.ret
/-- the heap without what is held alone -/
noncomputable def hpart (S : Nat → Option Addr) (H : Hp) : Hp := fun a => open Classical in if ∃ j, S j = some a then none else H a
theorem hpart_in {S : Nat → Option Addr} {H : Hp} {a : Addr} (h : ∀ j, S j ≠ some a) : hpart S H a = H a := by
  unfold hpart
  rw [if_neg]
  rintro ⟨j, e⟩
  exact h j e
theorem hpart_out {S : Nat → Option Addr} {H : Hp} {a : Addr} {j : Nat} (h : S j = some a) : hpart S H a = none := by
  unfold hpart
  rw [if_pos ⟨j, h⟩]
theorem hpart_some {S : Nat → Option Addr} {H : Hp} {a : Addr} {o : HO} (h : hpart S H a = some o) : H a = some o ∧ ∀ j, S j ≠ some a := by
  by_cases c : ∃ j, S j = some a
  · obtain ⟨j, e⟩ := c
    rw [hpart_out e] at h; cases h
  · have c' : ∀ j, S j ≠ some a := fun j e => c ⟨j, e⟩
    exact ⟨by rw [hpart_in c'] at h; exact h, c'⟩
section
variable {H0 H : Hp} {N0 : Addr → Prop} {S : Nat → Option Addr} {σ : Fb.St} {ρ : En}
/-- all but what is held alone stands still from now on -/
theorem OwnOk.keep (o : OwnOk G H0 N0 S σ H ρ) {a : Addr} {u : HO} (e : H a = some u) (n : ¬ isM u) : hpart S H a = some u := by
  rw [hpart_in fun j z => by
    obtain ⟨u', e', k⟩ := o.kind j a z
    rw [e] at e'
    cases e'
    exact n k]
  exact e
theorem OwnOk.tabs (o : OwnOk G H0 N0 S σ H ρ) (t : TabsG G H) : TabsG G (hpart S H) := fun p hp => by
  obtain ⟨ps, h1, h2, h3⟩ := t p hp
  exact ⟨ps, o.keep h1 id, h2, fun pos cv hc => let ⟨c, e, h⟩ := h3 pos cv hc; ⟨c, e, o.keep h id⟩⟩
theorem SRel.still (h0 : Same1 G H0 H) (hl : ρ.length = σ.length) (o : OwnOk G H0 N0 S σ H ρ) : SRel G (hpart S H) (Fr N0 H0) σ H ρ := by
  have sub : ∀ a, Out N0 H0 S a → Out (Fr N0 H0) (hpart S H) S a := fun a h => ⟨.inl h.1, h.2⟩
  have s1 : Same1 G (hpart S H) H := ⟨.of fun a u e => (hpart_some e).1, h0.tb⟩
  exact ⟨s1, hl, S, fun i a e => ⟨hpart_out e, (o.new i a e).2⟩, o.kind, o.inj, fun i d e => let ⟨v, e1, r⟩ := o.shr i d e; ⟨v, e1, r.sub sub⟩, fun i d e => let ⟨a, e1, e2, r⟩ := o.own i d e; ⟨a, e1, e2, r.mono (fun b z _ => sub b z) (Same.refl H)⟩⟩
theorem hpart_h0 (h0 : Same1 G H0 H) (o : OwnOk G H0 N0 S σ H ρ) : Same G H0 (hpart S H) := ⟨fun a u e n => by
  rw [hpart_in fun j z => by rw [(o.new j a z).1] at e; cases e]
  exact h0.at e n, fun a e => by
  by_cases c : ∃ j, S j = some a
  · obtain ⟨j, z⟩ := c; exact (o.new j a z).1
  · rw [hpart_in fun j z => c ⟨j, z⟩] at e; exact h0.free e, fun _ => o.tabs h0.tb⟩
theorem Fr.back {HP : Hp} (s : Same G H0 HP) {a : Addr} (h : Fr (Fr N0 H0) HP a) : Fr N0 H0 a := h.elim id fun z => .inr (s.free z)
theorem SRel.back {HP H' : Hp} {σ' : Fb.St} {ρ' : En} (s : Same G H0 HP) (x : SRel G HP (Fr N0 H0) σ' H' ρ') : SRel G H0 N0 σ' H' ρ' := by
  obtain ⟨S', o⟩ := x.own
  have sub : ∀ a, Out (Fr N0 H0) HP S' a → Out N0 H0 S' a := fun a h => ⟨h.1.back s, h.2⟩
  exact ⟨s.trans1 x.same, x.len, S', fun i a e => ⟨s.free (o.new i a e).1, (o.new i a e).2⟩, o.kind, o.inj, fun i d e => let ⟨v, e1, r⟩ := o.shr i d e; ⟨v, e1, r.sub sub⟩, fun i d e => let ⟨a, e1, e2, r⟩ := o.own i d e; ⟨a, e1, e2, r.mono (fun b z _ => sub b z) (Same.refl H')⟩⟩
theorem PoS.back {HP : Hp} {D' : Ends} (s : Same G H0 HP) : ∀ {p : Fl × En}, PoS G H0 N0 D' p → PoS G HP (Fr N0 H0) D' p
  | (.nx, _), h => fun σ H x => h σ H (x.back s)
  | (.bk, _), h => fun σ H x => h σ H (x.back s)
  | (.ct, _), h => fun σ H x => h σ H (x.back s)
  | (.rt r, _), h => fun v H s' r' f => h v H (s.trans s') (r'.sub fun _ z => z.back s) fun w => by
    obtain ⟨a, e1, e2, e3⟩ := f w
    exact ⟨a, e1, s.free e2, e3.mono (fun b z _ => ⟨z.1.back s, z.2⟩) (Same.refl H)⟩
theorem PoXS.back {HP : Hp} {p : Ex × En} (s : Same G H0 HP) (h : PoXS G H0 N0 Wx p) : PoXS G HP (Fr N0 H0) Wx p := fun σ c dd H x r => h σ c dd H (x.back s) (r.mono fun _ z => z.back s)
end
theorem ds_for {iter : Expr} {body : List Stmt} {m : Ro → W Ex (List D)} {b : En → WS} {g : TG} {p : D → Option (List (Nat × D))} {sl : List Nat} {pos : Pos} (fz : List Nat) (hp : PassesOwn (model X.prog X.w) X.A X.env X.xe) (hc : X.calm = true) (hi : DI G X Wx tg iter m) (hg : DG G X tg g p sl) (hb : DSs G X Wx body b)
    (hs : ∀ x, foldedSetIterable iter X.env x = pure x := by intro _; rfl) : DS G X Wx (.For tg iter body [] pos) (mFor fz m p b) := by
  refine DS.imp (fun ρ => (Mono.up (hi.mono _)).bind fun ds => forN_mono hb.mono ds _) (ps_for hp hc hi.pi hg.pg hb.ps hs) fun H0 N0 ρ σ H D' r q => ?_
  obtain ⟨S, o⟩ := r.own
  refine ⟨_, _, o.sees r.same.tb fz, (hi.mono _).run (fun ds z J H1 s1 sv => ?_) (fun x z => ?_) q⟩
  · have o1 : OwnOk G H0 N0 (cut fz S) σ H1 (frz fz ρ) := (o.frz fz).same s1
    have h01 := r.same.trans s1
    have x1 := SRel.still h01 (frz_len.trans r.len) o1
    have hp0 := hpart_h0 h01 o1
    have pt : Part (Fr (Out N0 H0 (cut fz S)) H) (hpart (cut fz S) H1) H1 := ⟨fun a u e => (hpart_some e).1, fun a u e c => by
      by_cases k : ∃ j, cut fz S j = some a
      · obtain ⟨j, k⟩ := k
        obtain ⟨u', e', k'⟩ := o1.kind j a k
        rw [e] at e'
        cases e'
        rcases c with c | c
        · rcases c with c | c
          · exact absurd k (c.2 j)
          · exact absurd c (o.new j a (cut_some k).1).2
        · exact absurd k' c
      · rw [hpart_in fun j k' => k ⟨j, k'⟩]; exact e⟩
    generalize hpart (cut fz S) H1 = HP at x1 hp0 pt
    have z' : forN p b ds (frz fz ρ) (PoS G HP (Fr N0 H0) D') (PoXS G HP (Fr N0 H0) Wx) := (forN_mono hb.mono ds _).run (fun _ y => PoS.back hp0 y) (fun _ y => PoXS.back hp0 y) z
    refine ⟨fun i k σ H => k = ds.length - i ∧ i ≤ ds.length ∧ ∃ ρ, SRel G HP (Fr N0 H0) σ H ρ ∧ forN p b (ds.drop i) ρ (PoS G HP (Fr N0 H0) D') (PoXS G HP (Fr N0 H0) Wx), ⟨_, rfl, Nat.zero_le _, _, x1, z'⟩, ?_⟩
    rintro i k σ2 H2 ⟨rfl, hi', ρ2, x2, z2⟩
    obtain ⟨sv1, sv2⟩ := sv HP pt i H2 x2.same
    by_cases hlt : i < ds.length
    · obtain ⟨d, hd⟩ : ∃ d, ds[i]? = some d := ⟨ds[i], by simp [hlt]⟩
      have hdrop : ds.drop i = d :: ds.drop (i + 1) := by
        rw [List.drop_eq_getElem_cons hlt]
        rw [List.getElem?_eq_getElem hlt] at hd
        cases hd
        rfl
      rw [hdrop] at z2
      obtain ⟨go, yl⟩ := sv1 d hd
      refine .inr ⟨go, fun σ' H' => ∃ ρ, SRel G HP (Fr N0 H0) σ' H' ρ ∧ forN p b (ds.drop (i + 1)) ρ (PoS G HP (Fr N0 H0) D') (PoXS G HP (Fr N0 H0) Wx), fun σ' H' w => ⟨ds.length - (i + 1), by omega, rfl, hlt, w⟩, fun x H' y => ?_⟩
      obtain ⟨s3, r3⟩ := yl x H' y
      unfold forN at z2
      rcases ep : p d with _ | bs
      · rw [ep] at z2; exact z2.elim
      · rw [ep] at z2
        refine hg.st _ H' d x bs σ2 _ r3 ep fun ws rb => ?_
        have x3 := SRel.setE (N := fun a => Fr (Out N0 H0 (cut fz S)) H a ∧ HP a ≠ none) (fun a h => ⟨h.1.out r.same, h.2⟩) (x2.step s3) rb
        refine ⟨HP, Fr N0 H0, setE ρ2 bs, x3, (hb.mono _).run (fun q y => ?_) (fun _ y => y) z2⟩
        obtain ⟨f, ρ'⟩ := q
        cases f with
        | nx => exact fun σ' H' r' => ⟨ρ', r', y⟩
        | ct => exact fun σ' H' r' => ⟨ρ', r', y⟩
        | bk => exact fun σ' H' r' => y σ' H' r'
        | rt r => exact y
    · have e : i = ds.length := by omega
      subst e
      have hn : ds[ds.length]? = none := by simp
      rw [List.drop_length] at z2
      exact .inl ⟨sv2 hn, z2 σ2 H2 x2⟩
  · intro c dd H' s1 r1
    exact z σ c dd H' (r.step s1) (r1.mono fun _ y => y.out r.same)
end
end Fb
end

section
set_option Elab.async false
set_option linter.all false
set_option maxRecDepth 100000
set_option maxHeartbeats 4000000
/-! List blocks and dict blocks. -/
namespace Fb
open PySem PySem.Spec PyProof.Rows L2

def wipeR (ρ : Ro) : List Nat → Ro
  | [] => ρ
  | v :: vs => (wipeR ρ vs).set v none
theorem wipe_get {σ : Fb.St} {j : Nat} : ∀ {vs : List Nat}, (wipe σ vs)[j]? = if j ∈ vs then (if j < σ.length then some none else none) else σ[j]?
  | [] => by simp [wipe]
  | v :: vs => by
    unfold wipe
    by_cases h : v = j
    · subst h
      rw [List.getElem?_set_self']
      by_cases hl : v < σ.length
      · have : v < (wipe σ vs).length := by rw [wipe_length]; exact hl
        rw [List.getElem?_eq_getElem this]
        simp [hl]
      · have : (wipe σ vs)[v]? = none := by rw [List.getElem?_eq_none_iff, wipe_length]; omega
        rw [this]
        simp [hl]
    · rw [List.getElem?_set_ne h, wipe_get]
      simp [Ne.symm h]
theorem wipeR_some {ρ : Ro} {j : Nat} {d : D} : ∀ {vs : List Nat}, (wipeR ρ vs)[j]? = some (some d) → ρ[j]? = some (some d) ∧ j ∉ vs
  | [], h => ⟨h, by simp⟩
  | v :: vs, h => by
    unfold wipeR at h
    by_cases hv : v = j
    · subst hv
      rw [List.getElem?_set_self'] at h
      rcases e : (wipeR ρ vs)[v]? with _ | o <;> rw [e] at h <;> cases h
    · rw [List.getElem?_set_ne hv] at h
      obtain ⟨h1, h2⟩ := wipeR_some h
      exact ⟨h1, by simp [Ne.symm hv, h2]⟩
theorem setV_get {σ : Fb.St} {j : Nat} : ∀ {ws : List (Nat × V)}, (∀ w ∈ ws, w.1 ≠ j) → (setV σ ws)[j]? = σ[j]?
  | [], _ => rfl
  | (i, v) :: r, h => by
    unfold setV
    rw [setV_get (fun w hw => h w (List.mem_cons_of_mem _ hw)), List.getElem?_set_ne (h (i, v) List.mem_cons_self)]
theorem wipe_setV {σ : Fb.St} {vs : List Nat} {ws : List (Nat × V)} (h : ∀ w ∈ ws, w.1 ∈ vs) : wipe (setV (wipe σ vs) ws) vs = wipe σ vs := by
  apply List.ext_getElem?
  intro j
  rw [wipe_get, wipe_get]
  by_cases hj : j ∈ vs
  · rw [if_pos hj, if_pos hj, setV_len, wipe_length]
  · rw [if_neg hj, if_neg hj, setV_get (fun w hw e => hj (by rw [← e]; exact h w hw)), wipe_get, if_neg hj]
theorem RepB.slots {G : Wd} {N : Addr → Prop} {H : Hp} {sl : List Nat} : ∀ {bs : List (Nat × D)} {ws : List (Nat × V)}, RepB G N H bs ws → (∀ b ∈ bs, b.1 ∈ sl) → ∀ w ∈ ws, w.1 ∈ sl := by
  intro bs ws h
  induction h with
  | nil => intro _ w hw; cases hw
  | cons h t ih =>
    intro hb w' hw
    rcases List.mem_cons.mp hw with e | hw
    · subst e; rw [← h.1]; exact hb _ List.mem_cons_self
    · exact ih (fun b' h' => hb b' (List.mem_cons_of_mem _ h')) w' hw
section
variable {G : Wd} {N N' : Addr → Prop} {H H' : Hp}
theorem ERel.wipe {σ : Fb.St} {ρ : Ro} (r : ERel G N H σ ρ) (vs : List Nat) : ERel G N H (L2.wipe σ vs) (wipeR ρ vs) := ⟨r.tab, fun i d e => by
  obtain ⟨e, h⟩ := wipeR_some e
  obtain ⟨v, e1, r1⟩ := r.get i d e
  exact ⟨v, by rw [wipe_get, if_neg h]; exact e1, r1⟩⟩
theorem ERel.setR {bs : List (Nat × D)} {ws : List (Nat × V)} {σ : Fb.St} {ρ : Ro} (hl : ∀ b ∈ bs, b.1 < σ.length) (x : ERel G N H σ ρ) (h : RepB G N H bs ws) : ERel G N H (setV σ ws) (Fb.setR ρ bs) := by
  induction h generalizing σ ρ with
  | nil => exact x
  | @cons b w _ _ h t ih =>
    obtain ⟨i, d⟩ := b
    obtain ⟨j, v⟩ := w
    obtain ⟨e, r⟩ := h
    obtain rfl : i = j := e
    refine ih (σ := σ.set i (some v)) (ρ := ρ.set i (some d)) (fun b hb => by rw [List.length_set]; exact hl b (List.mem_cons_of_mem _ hb)) ⟨x.tab, fun k d' e => ?_⟩
    by_cases hk : i = k
    · subst hk
      have hi : i < σ.length := hl (i, d) List.mem_cons_self
      rw [List.getElem?_set_self'] at e
      rcases e2 : ρ[i]? with _ | o
      · rw [e2] at e; cases e
      · rw [e2] at e
        cases e
        exact ⟨v, by rw [List.getElem?_set_self hi], r⟩
    · rw [List.getElem?_set_ne hk] at e
      obtain ⟨v', e1, r1⟩ := x.get k d' e
      exact ⟨v', by rw [List.getElem?_set_ne hk]; exact e1, r1⟩
theorem ERel.mono {σ : Fb.St} {ρ : Ro} (hN : ∀ a, N a → H a ≠ none → N' a) (s : Same G H H') (r : ERel G N H σ ρ) : ERel G N' H' σ ρ := ⟨s.tab r.tab, fun i d e =>
  let ⟨v, e1, r1⟩ := r.get i d e
  ⟨v, e1, r1.mono hN (Le.of s)⟩⟩
theorem RepB.imp {bs : List (Nat × D)} {ws : List (Nat × V)} (f : ∀ d v, Rep G N H d v → Rep G N' H' d v) (h : RepB G N H bs ws) : RepB G N' H' bs ws := by
  induction h with
  | nil => exact .nil
  | cons h t ih => exact .cons ⟨h.1, f _ _ h.2⟩ ih
end

abbrev WxF : WX := fun _ _ _ _ => False
section
variable {G : Wd} {X : Cx} {Wx : WX}
/-- a block's tests -/
structure DTs (G : Wd) (X : Cx) (Wx : WX) (es : List Expr) (m : Ro → W Ex Bool) : Prop where
  pt : PTs X es (tT G Wx m)
  mono : ∀ ρ, W.Mono (m ρ)
def mYes : Ro → W Ex Bool := fun _ => W.ret true
theorem dts_nil : DTs G X Wx [] mYes := ⟨⟨fun pins s σ H Q I ⟨N, ρ, r, q⟩ => pts_nil.run pins s σ H Q I (q H (Same.refl H))⟩, fun _ => W.Mono.ret⟩
theorem dts_one {c : Expr} {m : Ro → W Ex Bool} (h : DT G X Wx c m) : DTs G X Wx [c] m := ⟨pts_one h.pt, h.mono⟩

def lcN (p : D → Option (List (Nat × D))) (c : Ro → W Ex Bool) (e : Ro → W Ex D) (ρ : Ro) : List D → W Ex (List D)
  | [] => W.ret []
  | d :: ds => match p d with
    | none => W.fail
    | some bs => W.bind (W.calm (c (setR ρ bs))) fun b => if b = true then W.bind (W.calm (e (setR ρ bs))) fun y => W.bind (lcN p c e ρ ds) fun ys => W.ret (y :: ys) else lcN p c e ρ ds
def mLc (m : Ro → W Ex (List D)) (vs : List Nat) (p : D → Option (List (Nat × D))) (c : Ro → W Ex Bool) (e : Ro → W Ex D) : Ro → W Ex (Bool × D) := fun ρ =>
  W.bind (m ρ) fun ds => szd ds (W.bind (lcN p c e (wipeR ρ vs) ds) fun ys => W.ret (true, .lst ys))
theorem lcN_mono {p : D → Option (List (Nat × D))} {c : Ro → W Ex Bool} {e : Ro → W Ex D} (hc : ∀ ρ, W.Mono (c ρ)) (he : ∀ ρ, W.Mono (e ρ)) (ρ : Ro) : ∀ ds, W.Mono (lcN p c e ρ ds)
  | [] => W.Mono.ret
  | d :: ds => by
    unfold lcN
    split
    · exact W.Mono.fail
    · exact (hc _).calm.bind fun b => ite_mono ((he _).calm.bind fun y => (lcN_mono hc he ρ ds).bind fun ys => W.Mono.ret) (lcN_mono hc he ρ ds)
theorem mLc_mono {m : Ro → W Ex (List D)} {vs : List Nat} {p : D → Option (List (Nat × D))} {c : Ro → W Ex Bool} {e : Ro → W Ex D} (hm : ∀ ρ, W.Mono (m ρ)) (hc : ∀ ρ, W.Mono (c ρ)) (he : ∀ ρ, W.Mono (e ρ)) (ρ : Ro) : W.Mono (mLc m vs p c e ρ) :=
  (hm ρ).bind fun ds => szd_mono ((lcN_mono hc he _ ds).bind fun _ => W.Mono.ret)
theorem drop_cons {α : Type} {l : List α} {i : Nat} {d : α} (hd : l[i]? = some d) : l.drop i = d :: l.drop (i + 1) := by
  have hlt := (List.getElem?_eq_some_iff.mp hd).1
  rw [List.drop_eq_getElem_cons hlt]
  rw [List.getElem?_eq_getElem hlt] at hd
  cases hd
  rfl
/-- the new list grows: what lies apart from it stays -/
theorem LeX.upd {N : Addr → Prop} {H : Hp} {a : Addr} {u v : HO} (h : H a = some u) (k : isM u) (n : ¬ N a) : LeX N H (L2.upd H a v) := fun b o e c => by
  by_cases hb : b = a
  · subst hb
    rw [h] at e
    cases e
    rcases c with c | c
    · exact absurd c n
    · exact absurd k c
  · rw [upd_ne hb]; exact e
/-- no table, no code object -/
def NoT (a : Addr) (u : HO) : Prop := (∀ ps, u ≠ .tbl ps) ∧ ∀ q, u ≠ LamX.CodeO a q
theorem isM_no {a : Addr} {u : HO} (h : isM u) : NoT a u := by
  cases u with
  | lst _ => exact ⟨fun _ z => (nomatch z), fun _ z => by unfold LamX.CodeO at z; exact nomatch z⟩
  | dK _ => exact ⟨fun _ z => (nomatch z), fun _ z => by unfold LamX.CodeO at z; exact nomatch z⟩
  | _ => exact h.elim
theorem lst_no {a : Addr} {xs : List V} : NoT a (.lst xs) := isM_no trivial
theorem frz_no {a : Addr} {o : Obj} {u : HO} : NoT a (.frz o u) := ⟨fun _ z => (nomatch z), fun _ z => by unfold LamX.CodeO at z; exact nomatch z⟩
theorem dK_no {a : Addr} {ks : List (Key × V)} : NoT a (.dK ks) := isM_no trivial
theorem ins_no {a C dx : Addr} {fs : List (Str × V)} : NoT a (.ins C dx fs) := ⟨fun _ z => (nomatch z), fun _ z => by unfold LamX.CodeO at z; exact nomatch z⟩
theorem heap_at (a : Addr) (its : List Value) (n : Nat) : ∃ h : Heap, h.get? a = some { cls := .type "list", data := .seq its.toArray n } := by
  refine ⟨⟨Array.replicate (a + 1) { cls := .type "list", data := .seq its.toArray n }, {}⟩, ?_⟩
  unfold Heap.get?
  have : (Array.replicate (a + 1) ({ cls := .type "list", data := .seq its.toArray n } : Obj))[a]? = some { cls := .type "list", data := .seq its.toArray n } := by
    rw [Array.getElem?_replicate, if_pos (Nat.lt_succ_self a)]
  rw [this]
theorem ext_no {a : Addr} {φ : Heap → Prop} (its : List Value) (n : Nat) (h : ∀ h : Heap, h.get? a = some { cls := .type "list", data := .seq its.toArray n } → φ h) : NoT a (.ext φ) := ⟨fun _ z => (nomatch z), fun q z => by
  unfold LamX.CodeO at z
  obtain ⟨hp, e⟩ := heap_at a its n
  injection z with z
  have := h hp e
  rw [z] at this
  obtain ⟨oc, vs, t, e1, e2, _⟩ := this
  rw [e] at e1
  cases e1
  cases e2⟩
theorem boxC_no {a : Addr} : NoT a (.ext (boxC a)) := ext_no [.int 0 default, .int 0 default] 0 fun h e => ⟨0, 0, _, _, .cons ⟨_, rfl⟩ (.cons ⟨_, rfl⟩ .nil), e⟩
theorem boxA_no {a b : Addr} : NoT a (.ext (boxA a b)) := ext_no [.ref b, .int 0 default] 0 fun h e => ⟨0, _, _, .cons rfl (.cons ⟨_, rfl⟩ .nil), e⟩
theorem boxB_no {b : Addr} : NoT b (.ext (boxB b)) := ext_no [] 0 fun h e => ⟨[], _, _, Nat.zero_le _, .nil, e⟩
theorem tabs_upd {H' : Hp} {a : Addr} {v : HO} (t : TabsG G H') (k : H' a = none ∨ ∃ u, H' a = some u ∧ NoT a u) : TabsG G (L2.upd H' a v) := fun p hp => by
  have st : ∀ b u, H' b = some u → (NoT b u → False) → L2.upd H' a v b = some u := fun b u e n => by
    rw [upd_ne fun z => ?_]
    · exact e
    · subst z
      rcases k with k | ⟨u', e', k⟩
      · rw [k] at e; cases e
      · rw [e'] at e; cases e; exact n k
  obtain ⟨ps, h1, h2, h3⟩ := t p hp
  exact ⟨ps, st _ _ h1 fun n => n.1 _ rfl, h2, fun pos cv hc => let ⟨c, e, h⟩ := h3 pos cv hc; ⟨c, e, st _ _ h fun n => n.2 _ rfl⟩⟩
theorem Same.updN {H H' : Hp} {a : Addr} {v : HO} (s : Same G H H') (h : H a = none) (k : H' a = none ∨ ∃ u, H' a = some u ∧ isM u := by first | exact .inl (by assumption) | exact .inr ⟨_, by assumption, trivial⟩) : Same G H (L2.upd H' a v) := ⟨fun b o e n => by
  rw [upd_ne (ne_of_none e h)]; exact s.at e n, fun b e => by
  by_cases c : b = a
  · subst c; exact h
  · rw [upd_ne c] at e; exact s.free e, fun t => tabs_upd (s.tab t) (k.imp id fun ⟨u, e, h⟩ => ⟨u, e, isM_no h⟩)⟩
theorem lc_tLc {m : Ro → W Ex (List D)} {g : TG} {p : D → Option (List (Nat × D))} {sl vs : List Nat} {c : Ro → W Ex Bool} {e : Ro → W Ex D} {tg : Expr} {σ : Fb.St} {H : Hp} {Q : VK} {X' : Cx}
    (hm : ∀ ρ, W.Mono (m ρ)) (hcm : ∀ ρ, W.Mono (c ρ)) (hem : ∀ ρ, W.Mono (e ρ)) (hg : DG G X' tg g p sl) (hsl : ∀ i ∈ sl, i ∈ vs ∧ i < σ.length) (h : tR G Wx (mLc m vs p c e) σ H Q) : tLc (tI G Wx m) g (tT G WxF c) (tE G WxF e) vs σ H Q := by
  obtain ⟨N, ρ, rr, q⟩ := h
  refine ⟨N, ρ, rr, (hm ρ).run (fun ds z J H1 s1 sv D hD => ?_) (fun _ z => z) q⟩
  obtain ⟨hz, z⟩ := ite_ret z
  have hDH : H D = none := s1.free hD
  refine ⟨fun i k H' => k = ds.length - i ∧ i ≤ ds.length ∧ ∃ acc ys, Same G H1 H' ∧ H' D = some (.lst acc) ∧ Reps G (fun a => Fr N H a ∧ a ≠ D) H' ys acc ∧ acc.length ≤ i ∧ lcN p c e (wipeR ρ vs) (ds.drop i) (fun zs => PoR G N H Q (true, .lst (ys ++ zs))) (PoX G N Wx H σ), ⟨_, rfl, Nat.zero_le _, [], [], Same.updN (Same.refl H1) hD, upd_same, rfl, Nat.le_refl _, z⟩, ?_⟩
  rintro i k H2 ⟨rfl, hi, acc, ys, s2, hacc, ra, hl, z2⟩
  obtain ⟨sv1, sv2⟩ := sv H1 Part.refl i H2 s2
  by_cases hlt : i < ds.length
  · obtain ⟨d, hd⟩ : ∃ d, ds[i]? = some d := ⟨ds[i], by simp [hlt]⟩
    rw [drop_cons hd] at z2
    obtain ⟨go, yl⟩ := sv1 d hd
    refine .inr ⟨go, fun H' => ∃ acc ys, Same G H1 H' ∧ H' D = some (.lst acc) ∧ Reps G (fun a => Fr N H a ∧ a ≠ D) H' ys acc ∧ acc.length ≤ i + 1 ∧ lcN p c e (wipeR ρ vs) (ds.drop (i + 1)) (fun zs => PoR G N H Q (true, .lst (ys ++ zs))) (PoX G N Wx H σ),
      fun H' w => ⟨ds.length - (i + 1), by omega, rfl, hlt, w⟩, fun x H3 y => ?_⟩
    obtain ⟨s3, r3⟩ := yl x H3 y
    unfold lcN at z2
    rcases ep : p d with _ | bs
    · rw [ep] at z2; exact z2.elim
    · rw [ep] at z2
      refine hg.st _ H3 d x bs _ _ r3 ep fun ws rb => ?_
      have hbs := hg.sl d bs ep
      have rb' : RepB G (fun a => Fr N H a ∧ a ≠ D) H3 bs ws := rb.imp fun d v r => r.sub fun a n => ⟨n.1, fun z => n.2 (z ▸ hD)⟩
      have er : ERel G (fun a => Fr N H a ∧ a ≠ D) H3 (setV (wipe σ vs) ws) (setR (wipeR ρ vs) bs) := by
        refine ERel.setR (fun b hb => by rw [wipe_length]; exact (hsl _ (hbs b hb)).2) ?_ rb'
        exact (rr.mono (N' := fun a => Fr N H a ∧ a ≠ D) (fun a n y => ⟨.inl n, fun z => y (z ▸ hDH)⟩) ((s1.trans s2).trans s3)).wipe vs
      refine ⟨wipe_setV fun w hw => (hsl _ (rb.slots hbs w hw)).1, _, _, er, (hcm _).run (fun b z H4 s4 => ?_) (fun _ z => z.elim) z2⟩
      have hD4 : H4 D = some (.lst acc) := s4.at (s3.at hacc)
      cases b with
      | false =>
        simp only [Bool.false_eq_true, if_false]
        exact ⟨acc, ys, (s2.trans s3).trans s4, hD4, ra.same (s3.trans s4), Nat.le_succ_of_le hl, z⟩
      | true =>
        simp only [if_true]
        refine ⟨_, _, er.same s4, (hem _).run (fun d' z v H5 s5 r5 => ?_) (fun _ z => z.elim) (show W.calm _ _ (PoX G N Wx H σ) from z)⟩
        have hD5 : H5 D = some (.lst acc) := s5.at hD4
        refine ⟨acc, hD5, by omega, acc ++ [v], ys ++ [d'], Same.updN (((s2.trans s3).trans s4).trans s5) hD (.inr ⟨_, hD5, trivial⟩), upd_same, ?_, by simp; omega, ?_⟩
        · have ra5 : Reps G (fun a => Fr N H a ∧ a ≠ D) H5 (ys ++ [d']) (acc ++ [v]) := by
            refine Reps.app (ra.same ((s3.trans s4).trans s5)) (.one (r5.sub fun a n => ?_))
            rcases n with n | n
            · exact n
            · exact ⟨.inr ((((s1.trans s2).trans s3).trans s4).free n), fun z => by rw [z, hD4] at n; cases n⟩
          exact ra5.monoX (fun _ n _ => n) (LeX.upd hD5 trivial fun n => n.2 rfl)
        · exact (lcN_mono hcm hem _ _).run (fun zs y => by rw [List.append_assoc]; exact y) (fun _ y => y) z
  · have ei : i = ds.length := by omega
    subst ei
    have hn : ds[ds.length]? = none := by simp
    rw [List.drop_length] at z2
    have z2 : PoR G N H Q (true, .lst (ys ++ [])) := z2
    rw [List.append_nil] at z2
    exact .inl ⟨sv2 hn, z2 _ H2 (s1.trans s2) ⟨D, acc, rfl, .inr hDH, hacc, ra.sub fun _ n => n.1⟩ fun _ => ⟨D, rfl, hDH, acc, hacc, ra⟩⟩
theorem own_lt {X : Cx} {own : List (Str × Nat)} {scope : Scope} {sl : List Nat} {σ : Fb.St} (hl : σ.length = X.N.length) (ok : BlkOk X.N X.env.scope scope own) (hsl : ∀ i ∈ sl, i ∈ own.map (·.2)) : ∀ i ∈ sl, i ∈ own.map (·.2) ∧ i < σ.length := fun i hi => by
  have h := hsl i hi
  refine ⟨h, ?_⟩
  obtain ⟨p, hp, rfl⟩ := List.mem_map.mp h
  rw [hl]
  exact (List.getElem?_eq_some_iff.mp (ok.ix p hp)).1
theorem dr_lc {elt tg iter : Expr} {ifs : List Expr} {scope : Scope} {own : List (Str × Nat)} {pos : Pos} {m : Ro → W Ex (List D)} {g : TG} {p : D → Option (List (Nat × D))} {sl : List Nat} {c : Ro → W Ex Bool} {e : Ro → W Ex D} (hc : X.calm = true) (hN : X.N.Nodup) (hi : DI G X Wx tg iter m) (ok : BlkOk X.N X.env.scope scope own)
    (hg : ∀ (s : Shared) (H : Hp) (C : Addr) (cl : List (Str × Addr)) (fp : List Addr), DG G (X.blk s H scope (compEnvC scope cl C X.env) fp) tg g p sl) (hsl : ∀ i ∈ sl, i ∈ own.map (·.2)) (ht : ∀ (s : Shared) (H : Hp) (C : Addr) (cl : List (Str × Addr)) (fp : List Addr), DTs G (X.blk s H scope (compEnvC scope cl C X.env) fp) WxF ifs c)
    (he : ∀ (s : Shared) (H : Hp) (C : Addr) (cl : List (Str × Addr)) (fp : List Addr), DE G (X.blk s H scope (compEnvC scope cl C X.env) fp) WxF elt e) (hs : ∀ x, foldedSetIterable iter X.env x = pure x := by intro _; rfl) :
    DR G X Wx (.ListComp elt [⟨tg, iter, ifs, 0⟩] scope pos) (mLc m (own.map (·.2)) p c e) := by
  refine ⟨⟨fun pins s σ H Q I h => ?_⟩, mLc_mono hi.mono (ht {} (fun _ => none) 0 [] []).mono (he {} (fun _ => none) 0 [] []).mono⟩
  exact (pe_lc hc hN hi.pi ok (fun s H C cl fp => (hg s H C cl fp).pg) (fun s H C cl fp => (ht s H C cl fp).pt) (fun s H C cl fp => (he s H C cl fp).pe) hs).run pins s σ H Q I
    (lc_tLc hi.mono (ht s H 0 [] []).mono (he s H 0 [] []).mono (hg s H 0 [] []) (own_lt I.len ok hsl) h)
/-- x = [..] on one line -/
theorem ds_setLc {i : Nat} {y : Str} {py : Pos} {elt tg iter : Expr} {ifs : List Expr} {scope : Scope} {own : List (Str × Nat)} {pos spos : Pos} {m : Ro → W Ex (List D)} {g : TG} {p : D → Option (List (Nat × D))} {sl : List Nat} {c : Ro → W Ex Bool} {e : Ro → W Ex D} (fz : List Nat)
    (hy : X.N[i]? = some y) (hyl : X.env.scope.names.lookup y = some .local) (hsw : swapsWith (.ListComp elt [⟨tg, iter, ifs, 0⟩] scope pos) (some (.Name y py)) spos.line X.env = pure true) (hc : X.calm = true) (hN : X.N.Nodup) (hi : DI G X Wx tg iter m) (ok : BlkOk X.N X.env.scope scope own)
    (hg : ∀ (s : Shared) (H : Hp) (C : Addr) (cl : List (Str × Addr)) (fp : List Addr), DG G (X.blk s H scope (compEnvC scope cl C X.env) fp) tg g p sl) (hsl : ∀ i ∈ sl, i ∈ own.map (·.2)) (ht : ∀ (s : Shared) (H : Hp) (C : Addr) (cl : List (Str × Addr)) (fp : List Addr), DTs G (X.blk s H scope (compEnvC scope cl C X.env) fp) WxF ifs c)
    (he : ∀ (s : Shared) (H : Hp) (C : Addr) (cl : List (Str × Addr)) (fp : List Addr), DE G (X.blk s H scope (compEnvC scope cl C X.env) fp) WxF elt e) (hs : ∀ x, foldedSetIterable iter X.env x = pure x := by intro _; rfl) :
    DS G X Wx (.Assign [.Name y py] (.ListComp elt [⟨tg, iter, ifs, 0⟩] scope pos) spos) (mSet fz i (mLc m (own.map (·.2)) p c e)) := by
  have mm := mLc_mono (vs := own.map (·.2)) (p := p) hi.mono (ht {} (fun _ => none) 0 [] []).mono (he {} (fun _ => none) 0 [] []).mono
  refine ⟨⟨fun pins s σ H D' I ⟨H0, N0, ρ, r, q⟩ => ?_⟩, fun ρ => (Mono.up (mm _)).bind fun _ => W.Mono.ret⟩
  refine (ps_setLc hc hN hy hyl hsw hi.pi ok (fun s H C cl fp => (hg s H C cl fp).pg) (fun s H C cl fp => (ht s H C cl fp).pt) (fun s H C cl fp => (he s H C cl fp).pe) hs).run pins s σ H D' I ?_
  obtain ⟨S, o⟩ := r.own
  refine lc_tLc hi.mono (ht s H 0 [] []).mono (he s H 0 [] []).mono (hg s H 0 [] []) (own_lt I.len ok hsl) ⟨_, _, o.sees r.same.tb fz, (mm _).run (fun p z v H1 s1 r1 f1 => ?_) (fun x z => ?_) q⟩
  · exact z _ _ ⟨r.same.trans s1, by rw [asg_len, List.length_set]; exact r.len, o.stored fz r.same r.len s1 r1 f1⟩
  · intro c dd H' s1 r1
    exact z σ c dd H' (r.step s1) (r1.mono fun _ y => y.out r.same)

/-! ### dict blocks -/
def putD (kvs : List (Key × D)) (k : Key) (d : D) : List (Key × D) :=
  if (kvs.any fun kv => decide (kv.1 = k)) = true then kvs.map (fun kv => if kv.1 = k then (kv.1, d) else kv) else kvs ++ [(k, d)]
theorem RepK.any {N : Addr → Prop} {H : Hp} {k : Key} : ∀ {kvs : List (Key × D)} {ks : List (Key × V)}, RepK G N H kvs ks → (ks.any fun kv => decide (kv.1 = k)) = (kvs.any fun kv => decide (kv.1 = k))
  | [], _, h => by rw [show _ = [] from h]; rfl
  | (_, _) :: _, _, ⟨w, ws, e, _, rs⟩ => by subst e; rw [List.any_cons, List.any_cons, RepK.any rs]
theorem RepK.map {N : Addr → Prop} {H : Hp} {k : Key} {d : D} {v : V} (rv : Rep G N H d v) : ∀ {kvs : List (Key × D)} {ks : List (Key × V)}, RepK G N H kvs ks → RepK G N H (kvs.map fun kv => if kv.1 = k then (kv.1, d) else kv) (ks.map fun kv => if kv.1 = k then (kv.1, v) else kv)
  | [], _, h => by rw [show _ = [] from h]; rfl
  | (k', d') :: r, _, ⟨w, ws, e, r1, rs⟩ => by
    subst e
    rw [List.map_cons, List.map_cons]
    by_cases h : k' = k
    · rw [if_pos (show (k', d').1 = k from h), if_pos (show (k', w).1 = k from h)]
      exact ⟨v, _, rfl, rv, RepK.map rv rs⟩
    · rw [if_neg (show ¬ (k', d').1 = k from h), if_neg (show ¬ (k', w).1 = k from h)]
      exact ⟨w, _, rfl, r1, RepK.map rv rs⟩
theorem RepK.app {N : Addr → Prop} {H : Hp} : ∀ {ds es : List (Key × D)} {vs ws : List (Key × V)}, RepK G N H ds vs → RepK G N H es ws → RepK G N H (ds ++ es) (vs ++ ws)
  | [], _, _, _, h, h' => by rw [show _ = [] from h]; exact h'
  | (_, _) :: _, _, _, _, ⟨w, ws, e, r, rs⟩, h' => by subst e; exact ⟨w, _, rfl, r, RepK.app rs h'⟩
theorem RepK.put {N : Addr → Prop} {H : Hp} {k : Key} {d : D} {v : V} (rv : Rep G N H d v) {kvs : List (Key × D)} {ks : List (Key × V)} (r : RepK G N H kvs ks) : RepK G N H (putD kvs k d) (putK ks k v) := by
  unfold putD putK
  rw [r.any]
  by_cases h : (kvs.any fun kv => decide (kv.1 = k)) = true
  · rw [if_pos h, if_pos h]; exact RepK.map rv r
  · rw [if_neg h, if_neg h]; exact RepK.app r ⟨v, [], rfl, rv, rfl⟩
def dcN (p : D → Option (List (Nat × D))) (c : Ro → W Ex Bool) (e f : Ro → W Ex D) (ρ : Ro) : List (Key × D) → List D → W Ex (List (Key × D))
  | kvs, [] => W.ret kvs
  | kvs, d :: ds => match p d with
    | none => W.fail
    | some bs => W.bind (W.calm (c (setR ρ bs))) fun b => if b = true then W.bind (W.calm (e (setR ρ bs))) fun y => W.bind (W.calm (f (setR ρ bs))) fun z => match keyOf y with
        | some k => dcN p c e f ρ (putD kvs k z) ds
        | none => W.fail
      else dcN p c e f ρ kvs ds
def mDc (m : Ro → W Ex (List D)) (vs : List Nat) (p : D → Option (List (Nat × D))) (c : Ro → W Ex Bool) (e f : Ro → W Ex D) : Ro → W Ex (Bool × D) := fun ρ =>
  W.bind (m ρ) fun ds => szd ds (W.bind (dcN p c e f (wipeR ρ vs) [] ds) fun ys => W.ret (true, .dic ys))
theorem dcN_mono {p : D → Option (List (Nat × D))} {c : Ro → W Ex Bool} {e f : Ro → W Ex D} (hc : ∀ ρ, W.Mono (c ρ)) (he : ∀ ρ, W.Mono (e ρ)) (hf : ∀ ρ, W.Mono (f ρ)) (ρ : Ro) : ∀ ds kvs, W.Mono (dcN p c e f ρ kvs ds)
  | [], _ => W.Mono.ret
  | d :: ds, kvs => by
    unfold dcN
    split
    · exact W.Mono.fail
    · refine (hc _).calm.bind fun b => ite_mono ((he _).calm.bind fun y => (hf _).calm.bind fun z => ?_) (dcN_mono hc he hf ρ ds kvs)
      split
      · exact dcN_mono hc he hf ρ ds _
      · exact W.Mono.fail
theorem mDc_mono {m : Ro → W Ex (List D)} {vs : List Nat} {p : D → Option (List (Nat × D))} {c : Ro → W Ex Bool} {e f : Ro → W Ex D} (hm : ∀ ρ, W.Mono (m ρ)) (hc : ∀ ρ, W.Mono (c ρ)) (he : ∀ ρ, W.Mono (e ρ)) (hf : ∀ ρ, W.Mono (f ρ)) (ρ : Ro) : W.Mono (mDc m vs p c e f ρ) :=
  (hm ρ).bind fun ds => szd_mono ((dcN_mono hc he hf _ ds []).bind fun _ => W.Mono.ret)
theorem dc_tDc {m : Ro → W Ex (List D)} {g : TG} {p : D → Option (List (Nat × D))} {sl vs : List Nat} {c : Ro → W Ex Bool} {e f : Ro → W Ex D} {tg : Expr} {σ : Fb.St} {H : Hp} {Q : VK} {X' : Cx}
    (hm : ∀ ρ, W.Mono (m ρ)) (hcm : ∀ ρ, W.Mono (c ρ)) (hem : ∀ ρ, W.Mono (e ρ)) (hfm : ∀ ρ, W.Mono (f ρ)) (hg : DG G X' tg g p sl) (hsl : ∀ i ∈ sl, i ∈ vs ∧ i < σ.length) (h : tR G Wx (mDc m vs p c e f) σ H Q) : tDc (tI G Wx m) g (tT G WxF c) (tE G WxF e) (tE G WxF f) vs σ H Q := by
  obtain ⟨N, ρ, rr, q⟩ := h
  refine ⟨N, ρ, rr, (hm ρ).run (fun ds z J H1 s1 sv D hD => ?_) (fun _ z => z) q⟩
  obtain ⟨hz, z⟩ := ite_ret z
  have hDH : H D = none := s1.free hD
  refine ⟨fun i k H' => k = ds.length - i ∧ i ≤ ds.length ∧ ∃ acc ys, Same G H1 H' ∧ H' D = some (.dK acc) ∧ RepK G (fun a => Fr N H a ∧ a ≠ D) H' ys acc ∧ acc.length ≤ i ∧ dcN p c e f (wipeR ρ vs) ys (ds.drop i) (fun zs => PoR G N H Q (true, .dic zs)) (PoX G N Wx H σ), ⟨_, rfl, Nat.zero_le _, [], [], Same.updN (Same.refl H1) hD, upd_same, rfl, Nat.le_refl _, z⟩, ?_⟩
  rintro i k H2 ⟨rfl, hi, acc, ys, s2, hacc, ra, hl, z2⟩
  obtain ⟨sv1, sv2⟩ := sv H1 Part.refl i H2 s2
  by_cases hlt : i < ds.length
  · obtain ⟨d, hd⟩ : ∃ d, ds[i]? = some d := ⟨ds[i], by simp [hlt]⟩
    rw [drop_cons hd] at z2
    obtain ⟨go, yl⟩ := sv1 d hd
    refine .inr ⟨go, fun H' => ∃ acc ys, Same G H1 H' ∧ H' D = some (.dK acc) ∧ RepK G (fun a => Fr N H a ∧ a ≠ D) H' ys acc ∧ acc.length ≤ i + 1 ∧ dcN p c e f (wipeR ρ vs) ys (ds.drop (i + 1)) (fun zs => PoR G N H Q (true, .dic zs)) (PoX G N Wx H σ),
      fun H' w => ⟨ds.length - (i + 1), by omega, rfl, hlt, w⟩, fun x H3 y => ?_⟩
    obtain ⟨s3, r3⟩ := yl x H3 y
    unfold dcN at z2
    rcases ep : p d with _ | bs
    · rw [ep] at z2; exact z2.elim
    · rw [ep] at z2
      refine hg.st _ H3 d x bs _ _ r3 ep fun ws rb => ?_
      have hbs := hg.sl d bs ep
      have rb' : RepB G (fun a => Fr N H a ∧ a ≠ D) H3 bs ws := rb.imp fun d v r => r.sub fun a n => ⟨n.1, fun z => n.2 (z ▸ hD)⟩
      have er : ERel G (fun a => Fr N H a ∧ a ≠ D) H3 (setV (wipe σ vs) ws) (setR (wipeR ρ vs) bs) := by
        refine ERel.setR (fun b hb => by rw [wipe_length]; exact (hsl _ (hbs b hb)).2) ?_ rb'
        exact (rr.mono (N' := fun a => Fr N H a ∧ a ≠ D) (fun a n y => ⟨.inl n, fun z => y (z ▸ hDH)⟩) ((s1.trans s2).trans s3)).wipe vs
      refine ⟨wipe_setV fun w hw => (hsl _ (rb.slots hbs w hw)).1, _, _, er, (hcm _).run (fun b z H4 s4 => ?_) (fun _ z => z.elim) z2⟩
      have hD4 : H4 D = some (.dK acc) := s4.at (s3.at hacc)
      cases b with
      | false =>
        simp only [Bool.false_eq_true, if_false]
        exact ⟨acc, ys, (s2.trans s3).trans s4, hD4, RepK.mono (fun _ n _ => n) (Le.of (s3.trans s4)) ra, Nat.le_succ_of_le hl, z⟩
      | true =>
        simp only [if_true]
        refine ⟨_, _, er.same s4, (hem _).run (fun dk z vk H5 s5 r5 => ?_) (fun _ z => z.elim) (show W.calm _ _ (PoX G N Wx H σ) from z)⟩
        refine ⟨_, _, (er.same s4).same s5, (hfm _).run (fun d' z v H6 s6 r6 => ?_) (fun _ z => z.elim) (show W.calm _ _ (PoX G N Wx H σ) from z)⟩
        have hD6 : H6 D = some (.dK acc) := s6.at (s5.at hD4)
        rcases ek : keyOf dk with _ | ky
        · have z : (match keyOf dk with | some k => dcN p c e f (wipeR ρ vs) (putD ys k d') (ds.drop (i + 1)) | none => W.fail) (fun zs => PoR G N H Q (true, .dic zs)) (PoX G N Wx H σ) := z
          rw [ek] at z; exact z.elim
        · have z : (match keyOf dk with | some k => dcN p c e f (wipeR ρ vs) (putD ys k d') (ds.drop (i + 1)) | none => W.fail) (fun zs => PoR G N H Q (true, .dic zs)) (PoX G N Wx H σ) := z
          rw [ek] at z
          refine ⟨acc, ky, r5.key ek, hD6, by omega, putK acc ky v, putD ys ky d', Same.updN ((((s2.trans s3).trans s4).trans s5).trans s6) hD (.inr ⟨_, hD6, trivial⟩), upd_same, ?_, Nat.le_trans (length_putK acc ky v) (by omega), z⟩
          have ra6 : RepK G (fun a => Fr N H a ∧ a ≠ D) H6 (putD ys ky d') (putK acc ky v) := by
            refine RepK.put (r6.sub fun a n => ?_) (RepK.mono (fun _ n _ => n) (Le.of (((s3.trans s4).trans s5).trans s6)) ra)
            rcases n with n | n
            · exact n
            · exact ⟨.inr (((((s1.trans s2).trans s3).trans s4).trans s5).free n), fun z => by rw [z, s5.at hD4] at n; cases n⟩
          exact RepK.monoX (fun _ n _ => n) (LeX.upd hD6 trivial fun n => n.2 rfl) ra6
  · have ei : i = ds.length := by omega
    subst ei
    have hn : ds[ds.length]? = none := by simp
    rw [List.drop_length] at z2
    have z2 : PoR G N H Q (true, .dic ys) := by unfold dcN at z2; exact z2
    exact .inl ⟨sv2 hn, z2 _ H2 (s1.trans s2) ⟨D, acc, rfl, .inr hDH, .inl hacc, RepK.mono (fun _ n _ => n.1) (Le.refl H2) ra⟩ fun _ => ⟨D, rfl, hDH, acc, hacc, ra⟩⟩
theorem dr_dc {kx vx tg iter : Expr} {ifs : List Expr} {scope : Scope} {own : List (Str × Nat)} {pos : Pos} {m : Ro → W Ex (List D)} {g : TG} {p : D → Option (List (Nat × D))} {sl : List Nat} {c : Ro → W Ex Bool} {e f : Ro → W Ex D} (hc : X.calm = true) (hN : X.N.Nodup) (hi : DI G X Wx tg iter m) (ok : BlkOk X.N X.env.scope scope own)
    (hg : ∀ (s : Shared) (H : Hp) (C : Addr) (cl : List (Str × Addr)) (fp : List Addr), DG G (X.blk s H scope (compEnvC scope cl C X.env) fp) tg g p sl) (hsl : ∀ i ∈ sl, i ∈ own.map (·.2)) (ht : ∀ (s : Shared) (H : Hp) (C : Addr) (cl : List (Str × Addr)) (fp : List Addr), DTs G (X.blk s H scope (compEnvC scope cl C X.env) fp) WxF ifs c)
    (hk : ∀ (s : Shared) (H : Hp) (C : Addr) (cl : List (Str × Addr)) (fp : List Addr), DE G (X.blk s H scope (compEnvC scope cl C X.env) fp) WxF kx e)
    (he : ∀ (s : Shared) (H : Hp) (C : Addr) (cl : List (Str × Addr)) (fp : List Addr), DE G (X.blk s H scope (compEnvC scope cl C X.env) fp) WxF vx f) (hs : ∀ x, foldedSetIterable iter X.env x = pure x := by intro _; rfl) :
    DR G X Wx (.DictComp kx vx [⟨tg, iter, ifs, 0⟩] scope pos) (mDc m (own.map (·.2)) p c e f) := by
  refine ⟨⟨fun pins s σ H Q I h => ?_⟩, mDc_mono hi.mono (ht {} (fun _ => none) 0 [] []).mono (hk {} (fun _ => none) 0 [] []).mono (he {} (fun _ => none) 0 [] []).mono⟩
  exact (pe_dc hc hN hi.pi ok (fun s H C cl fp => (hg s H C cl fp).pg) (fun s H C cl fp => (ht s H C cl fp).pt) (fun s H C cl fp => (hk s H C cl fp).pe) (fun s H C cl fp => (he s H C cl fp).pe) hs).run pins s σ H Q I
    (dc_tDc hi.mono (ht s H 0 [] []).mono (hk s H 0 [] []).mono (he s H 0 [] []).mono (hg s H 0 [] []) (own_lt I.len ok hsl) h)
/-- x = {..} on one line (as ps_setLc) -/
theorem ps_setDc {i : Nat} {y : Str} {py : Pos} {kx vx tg iter : Expr} {ifs : List Expr} {scope : Scope} {own : List (Str × Nat)} {pos spos : Pos} {wi : TI} {g : TG} {tt : TT} {tk tv : TE} (hc : X.calm = true) (hN : X.N.Nodup) (hy : X.N[i]? = some y) (hyl : X.env.scope.names.lookup y = some .local)
    (hsw : swapsWith (.DictComp kx vx [⟨tg, iter, ifs, 0⟩] scope pos) (some (.Name y py)) spos.line X.env = pure true) (hi : PI X tg iter wi) (ok : BlkOk X.N X.env.scope scope own)
    (hg : ∀ (s : Shared) (H : Hp) (C : Addr) (cl : List (Str × Addr)) (fp : List Addr), PG (X.blk s H scope (compEnvC scope cl C X.env) fp) tg g) (ht : ∀ (s : Shared) (H : Hp) (C : Addr) (cl : List (Str × Addr)) (fp : List Addr), PTs (X.blk s H scope (compEnvC scope cl C X.env) fp) ifs tt)
    (hk : ∀ (s : Shared) (H : Hp) (C : Addr) (cl : List (Str × Addr)) (fp : List Addr), PE (X.blk s H scope (compEnvC scope cl C X.env) fp) kx tk)
    (he : ∀ (s : Shared) (H : Hp) (C : Addr) (cl : List (Str × Addr)) (fp : List Addr), PE (X.blk s H scope (compEnvC scope cl C X.env) fp) vx tv) (hs : ∀ x, foldedSetIterable iter X.env x = pure x := by intro _; rfl) :
    PS X (.Assign [.Name y py] (.DictComp kx vx [⟨tg, iter, ifs, 0⟩] scope pos) spos) (tAsg (tDc wi g tt tk tv (own.map (·.2))) (gName i)) := by
  refine ⟨fun pins s σ H D I h => ?_⟩
  rw [exec_Assign_Name_used _ _ _ _ hsw]
  refine wpAny_bind (wpAny_standAt (wpAny_bind ?_))
  have h : tDc wi g tt tk tv (own.map (·.2)) σ H (fun x H1 => gName i x σ H1 D.nx) := h
  refine wpAny_bind (thn (dc_core (use := some (assign (.Name y py) X.env)) (Qf := fun _ s' => SP X pins D .next s') hc hN I hi ok hg ht hk he hs h fun L C s' m H' I' q hn f => ?_) fun _ s' hq => wpAny_pure (wpAny_pure hq))
  show wpAny _ _ (assign (.Name y py) X.env (.ref L)) _ _ _
  refine wpAny_assign_Name (store_ok2 (v := V.ref L) I' hN hy (.inl hyl) rfl (fun s2 I2 ⟨a, sb, ha⟩ => ?_) (.inr hyl))
  obtain ⟨f0, f1, f2, f3, f4, f5⟩ := f
  have haC : C ≠ a := by
    rcases ha with z | z
    · rw [z]; exact f1
    · exact fun e => f4 y a z e.symm
  refine ⟨m, hn.sameBut sb haC, fun h3 sb3 => ?_⟩
  exact ⟨_, H', I2.turned (t' := s2.toks) (fun b o hb e => (sb3.2 b hb).trans e) f0 f1 f3 f4 f5, q⟩
theorem sw_trueD {kx vx : Expr} {gs : List Comprehension} {scope : Scope} {pos py : Pos} {y : Str} {l : Nat} {env : Env} (hk : env.scope.kind = .function) (hy : env.scope.names.lookup y = some .local) (hl : (py.line == pos.line) = true)
    (ha : (scope.names.any fun (n, k) => n == y && (k == .local || k == .cell)) = false) : swapsWith (.DictComp kx vx gs scope pos) (some (.Name y py)) l env = pure true := by
  have ky : env.kindOf y = some .local := hy
  have hb : env.blockKind = .function := by unfold Env.blockKind; rw [hk]; rfl
  unfold swapsWith
  simp only [hb, ky, ha, Expr.pos, hl]
  rfl
theorem ds_setDc {i : Nat} {y : Str} {py : Pos} {kx vx tg iter : Expr} {ifs : List Expr} {scope : Scope} {own : List (Str × Nat)} {pos spos : Pos} {m : Ro → W Ex (List D)} {g : TG} {p : D → Option (List (Nat × D))} {sl : List Nat} {c : Ro → W Ex Bool} {e f : Ro → W Ex D} (fz : List Nat)
    (hy : X.N[i]? = some y) (hyl : X.env.scope.names.lookup y = some .local) (hsw : swapsWith (.DictComp kx vx [⟨tg, iter, ifs, 0⟩] scope pos) (some (.Name y py)) spos.line X.env = pure true) (hc : X.calm = true) (hN : X.N.Nodup) (hi : DI G X Wx tg iter m) (ok : BlkOk X.N X.env.scope scope own)
    (hg : ∀ (s : Shared) (H : Hp) (C : Addr) (cl : List (Str × Addr)) (fp : List Addr), DG G (X.blk s H scope (compEnvC scope cl C X.env) fp) tg g p sl) (hsl : ∀ i ∈ sl, i ∈ own.map (·.2)) (ht : ∀ (s : Shared) (H : Hp) (C : Addr) (cl : List (Str × Addr)) (fp : List Addr), DTs G (X.blk s H scope (compEnvC scope cl C X.env) fp) WxF ifs c)
    (hk : ∀ (s : Shared) (H : Hp) (C : Addr) (cl : List (Str × Addr)) (fp : List Addr), DE G (X.blk s H scope (compEnvC scope cl C X.env) fp) WxF kx e)
    (he : ∀ (s : Shared) (H : Hp) (C : Addr) (cl : List (Str × Addr)) (fp : List Addr), DE G (X.blk s H scope (compEnvC scope cl C X.env) fp) WxF vx f) (hs : ∀ x, foldedSetIterable iter X.env x = pure x := by intro _; rfl) :
    DS G X Wx (.Assign [.Name y py] (.DictComp kx vx [⟨tg, iter, ifs, 0⟩] scope pos) spos) (mSet fz i (mDc m (own.map (·.2)) p c e f)) := by
  have mm := mDc_mono (vs := own.map (·.2)) (p := p) hi.mono (ht {} (fun _ => none) 0 [] []).mono (hk {} (fun _ => none) 0 [] []).mono (he {} (fun _ => none) 0 [] []).mono
  refine ⟨⟨fun pins s σ H D' I ⟨H0, N0, ρ, r, q⟩ => ?_⟩, fun ρ => (Mono.up (mm _)).bind fun _ => W.Mono.ret⟩
  refine (ps_setDc hc hN hy hyl hsw hi.pi ok (fun s H C cl fp => (hg s H C cl fp).pg) (fun s H C cl fp => (ht s H C cl fp).pt) (fun s H C cl fp => (hk s H C cl fp).pe) (fun s H C cl fp => (he s H C cl fp).pe) hs).run pins s σ H D' I ?_
  obtain ⟨S, o⟩ := r.own
  refine dc_tDc hi.mono (ht s H 0 [] []).mono (hk s H 0 [] []).mono (he s H 0 [] []).mono (hg s H 0 [] []) (own_lt I.len ok hsl) ⟨_, _, o.sees r.same.tb fz, (mm _).run (fun p z v H1 s1 r1 f1 => ?_) (fun x z => ?_) q⟩
  · exact z _ _ ⟨r.same.trans s1, by rw [asg_len, List.length_set]; exact r.len, o.stored fz r.same r.len s1 r1 f1⟩
  · intro c dd H' s1 r1
    exact z σ c dd H' (r.step s1) (r1.mono fun _ y => y.out r.same)
end
end Fb
end

section
set_option Elab.async false
set_option linter.all false
set_option maxRecDepth 100000
set_option maxHeartbeats 4000000
/-! list, tuple, dict, sorted. -/
namespace Fb
open PySem PySem.Spec PyProof.Rows L2
section
variable {G : Wd} {X : Cx} {Wx : WX}
def keyD : Key → D
  | .inl i => .int i
  | .inr x => .str x
def gList : List D → Rt
  | [.lst ds] => W.ret (true, .lst ds)
  | [.tup ds] => W.ret (true, .lst ds)
  | [.dic kvs] => W.ret (true, .lst (kvs.map fun kv => keyD kv.1))
  | _ => W.fail
theorem gList_mono (ds : List D) : W.Mono (gList ds) := by
  unfold gList
  split <;> first | exact W.Mono.ret | exact W.Mono.fail
theorem gList_inv {ds : List D} {Q : Bool × D → Prop} {E : Ex → Prop} (h : gList ds Q E) : (∃ xs, (ds = [.lst xs] ∨ ds = [.tup xs]) ∧ Q (true, .lst xs)) ∨ ∃ kvs, ds = [.dic kvs] ∧ Q (true, .lst (kvs.map fun kv => keyD kv.1)) := by
  unfold gList at h
  split at h
  · exact .inl ⟨_, .inl rfl, h⟩
  · exact .inl ⟨_, .inr rfl, h⟩
  · exact .inr ⟨_, rfl, h⟩
  · exact h.elim
theorem keyD_rep {N : Addr → Prop} {H : Hp} (k : Key) : Rep G N H (keyD k) (kV k) := by
  cases k <;> rfl
theorem RepK.keys {N : Addr → Prop} {H : Hp} : ∀ {kvs : List (Key × D)} {ks : List (Key × V)}, RepK G N H kvs ks → Reps G N H (kvs.map fun kv => keyD kv.1) (ks.map fun kv => kV kv.1)
  | [], _, h => by rw [show _ = [] from h]; rfl
  | (k, _) :: _, _, ⟨w, ws, e, _, rs⟩ => by subst e; exact ⟨_, _, rfl, keyD_rep k, RepK.keys rs⟩
theorem bl_list (Z : X.K = G.K) (hc : X.calm = true) : CallR X (.type "list") (rD G gList) := by
  intro pins s σ H xs us Q I r h
  obtain ⟨N, ds, rr, q⟩ := h
  rcases gList_inv q with ⟨xs, rfl | rfl, q⟩ | ⟨kvs, rfl, q⟩
  · obtain ⟨v, rfl, a, vs, rfl, n, e, rs⟩ := rr.one_inv
    exact call_list_of pins s σ H _ us Q I r ⟨a, vs, rfl, .inl (.of e), fun l hl => new_lst rs q l hl⟩
  · obtain ⟨v, rfl, a, vs, rfl, e, rs⟩ := rr.one_inv
    exact call_list_of pins s σ H _ us Q I r ⟨a, vs, rfl, .inr (Z ▸ e.sq), fun l hl => new_lst rs q l hl⟩
  · obtain ⟨v, rfl, a, vs, rfl, n, e, rs⟩ := rr.one_inv
    exact call_listD hc pins s σ H _ us Q I r ⟨a, vs, rfl, e, fun l hl => new_lst rs.keys q l hl⟩
def gTuple : List D → Rt
  | [.lst ds] => W.ret (false, .tup ds)
  | [.tup ds] => W.ret (false, .tup ds)
  | _ => W.fail
theorem gTuple_mono (ds : List D) : W.Mono (gTuple ds) := by
  unfold gTuple
  split <;> first | exact W.Mono.ret | exact W.Mono.fail
theorem bl_tuple (Z : X.K = G.K) : CallR X (.type "tuple") (rD G gTuple) := by
  intro pins s σ H xs us Q I r h
  obtain ⟨N, ds, rr, q⟩ := h
  unfold gTuple at q
  split at q
  · obtain ⟨v, rfl, a, vs, rfl, n, e, rs⟩ := rr.one_inv
    exact call_tuple_of pins s σ H _ us Q I r ⟨a, vs, rfl, .inl ⟨.of e, fun l hl => new_tup rs q l hl⟩⟩
  · obtain ⟨v, rfl, a, vs, rfl, e, rs⟩ := rr.one_inv
    exact call_tuple_of pins s σ H _ us Q I r ⟨a, vs, rfl, .inr ⟨Z ▸ e.sq, q _ H (Same.refl H) ⟨a, vs, rfl, e, rs.sub fun _ => Fr.of⟩ fun z => nomatch z⟩⟩
  · exact q.elim
def gDict : List D → Rt
  | [.dic kvs] => W.ret (true, .dic kvs)
  | _ => W.fail
theorem gDict_mono (ds : List D) : W.Mono (gDict ds) := by
  unfold gDict
  split <;> first | exact W.Mono.ret | exact W.Mono.fail
theorem bl_dict : CallR X (.type "dict") (rD G gDict) := by
  intro pins s σ H xs us Q I r h
  obtain ⟨N, ds, rr, q⟩ := h
  unfold gDict at q
  split at q
  · obtain ⟨v, rfl, a, vs, rfl, n, e, rs⟩ := rr.one_inv
    exact call_dictD pins s σ H _ us Q I r ⟨a, vs, rfl, e, fun l hl => new_dic rs q l hl⟩
  · exact q.elim

/-! ### sorted -/
section
open PySem.W PySem.Calls
variable {prog : Program} {w : World} {A : Around} {E : Value → Shared → Prop} {s : Shared} {β : Type} {vs : List Value} {bs : List β} {enc : β → PyData} {R : Value → β → Prop}
theorem sorted_seq {it : Addr} {T : String} {o : Obj} {n : Nat} {Q : Value → Shared → Prop} (hT : T = "list" ∨ T = "tuple") (ho : s.heap.get? it = some o) (hc : o.cls = .type T) (hd : o.data = .seq vs.toArray n) (e : EachIs R vs bs) (er : EachIs (fun v b => ∃ as, Reads s.heap v (enc b) as) vs bs)
    (hal : AllAlike (bs.map enc)) (hk : Sortable (bs.map enc)) (hL : bs.length ≤ sizeLine) (hu : ∀ b, b ∈ bs → A.units + 2 + (enc b).depth < cLine)
    (h : ∀ (h1 h' : Heap) (out : List Value) (c : Nat), (∀ b o, s.heap.get? b = some o → h1.get? b = some o) → (∀ b o, h1.get? b = some o → h'.get? b = some o) → h'.get? h1.objs.size = some { cls := .type "list", data := .seq out.toArray c } → out.length = bs.length → EachIs R out (bs.mergeSort (dataLe false enc)) → Q (.ref h1.objs.size) { s with heap := h' }) :
    wpAny (model prog w) A (call (.builtin "sorted") [.ref it]) Q E s := by
  have hvl : vs.length ≤ sizeLine := by rw [e.length]; exact hL
  refine call_function_entry_kw kind_sorted plain_sorted entry_sorted (args_sorted1 _) ?_
  unfold Builtin.«sorted»
  refine wpAny_bind (m := checkCount "sorted" 1 1 _) (wpAny_pure ?_)
  refine wpAny_bind (wpAny_collect_seq it hT ho hc hd (fun h1 k1 => ?_) (by rw [List.size_toArray]; exact hvl))
  refine wpAny_bind (wpAny_newList ?_ (by simpa using hvl))
  have hat : (h1.push (seqObj "list" vs.toArray 0)).get? h1.objs.size = some (seqObj "list" vs.toArray 0) := Heap.get?_push_size _ rfl
  have k2 : ∀ b o, s.heap.get? b = some o → (h1.push (seqObj "list" vs.toArray 0)).get? b = some o := fun b o q => Heap.get?_push_of_some _ (k1 b o q)
  show wpAny _ _ _ _ _ { s with heap := h1.push (seqObj "list" vs.toArray 0) }
  have hout : (bs.mergeSort (dataLe false enc)).length = bs.length := List.length_mergeSort ..
  refine wpAny_bind (wpAny_holding (wpAny_call_entry slot_list_sort ⟨_, hat, rfl⟩ entry_list_sort ?_ (args_list_sort _)))
  have er' : EachIs (fun v b => ∃ as, Reads (sortingHeap (h1.push (seqObj "list" vs.toArray 0)) h1.objs.size vs) v (enc b) as) vs bs := er.mono fun _ _ ⟨as, r⟩ => ⟨as, PyProof.Rows.Reads.keeps (fun b o q => sortingHeap_old (Nat.ne_of_lt (Heap.lt_size (k1 b o q))) (k2 b o q)) r⟩
  refine list_sort_vals (κ := dataKind (sortingHeap (h1.push (seqObj "list" vs.toArray 0)) h1.objs.size vs) (bs.map enc)) (s := { s with heap := h1.push (seqObj "list" vs.toArray 0) }) hat (SortsAt.data (s := { s with heap := sortingHeap (h1.push (seqObj "list" vs.toArray 0)) h1.objs.size vs }) (each_map (R := fun v d => ∃ as, Reads (sortingHeap (h1.push (seqObj "list" vs.toArray 0)) h1.objs.size vs) v d as) enc er') hal hk (bound_map hu)) hvl ?_
  refine ⟨_, rfl, wpAny_pure ?_⟩
  obtain ⟨ep, he'⟩ := PyProof.Rows.sortedHeap_at (vs := vs) (out := (sortVals (dataKind (sortingHeap (h1.push (seqObj "list" vs.toArray 0)) h1.objs.size vs) (bs.map enc)) false vs vs).toArray) hat
  refine ⟨_, rfl, ?_⟩
  refine h h1 _ _ ep k1 (fun b o q => ?_) he' (by rw [sortVals_length false rfl]; exact e.length) (sortVals_data false e er' hal)
  have q2 := Heap.get?_push_of_some (seqObj "list" vs.toArray 0) q
  rw [PyProof.Rows.sortedHeap_old (Nat.ne_of_lt (Heap.lt_size q)) (Heap.lt_size q2)]
  exact q2
end
open PySem.W in
/-- the data's order -/
def encD (d : D) : PyData := d.py.getD .none
def leD (a b : D) : Bool := PySem.W.dataLe false encD a b
def sortOk (ds : List D) : Bool :=
  ds.all (fun d => d.py.isSome && decide ((encD d).depth ≤ 60)) && ds.all (fun d => ds.all fun d' => PySem.W.alike (encD d) (encD d')) &&
    (ds.all (fun d => match encD d with | .tuple (_ :: _) => true | _ => false) || ds.all (fun d => match encD d with | .tuple _ => false | .none => false | _ => true)) && decide (ds.length ≤ sizeLine)
def gSorted : List D → Rt
  | [.lst ds] => if sortOk ds = true then W.ret (true, .lst (ds.mergeSort leD)) else W.fail
  | [.tup ds] => if sortOk ds = true then W.ret (true, .lst (ds.mergeSort leD)) else W.fail
  | _ => W.fail
theorem gSorted_mono (ds : List D) : W.Mono (gSorted ds) := by
  unfold gSorted
  split <;> first | exact ite_mono W.Mono.ret W.Mono.fail | exact W.Mono.fail
theorem gSorted_inv {ds : List D} {Q : Bool × D → Prop} {E : Ex → Prop} (h : gSorted ds Q E) : ∃ xs, (ds = [.lst xs] ∨ ds = [.tup xs]) ∧ sortOk xs = true ∧ Q (true, .lst (xs.mergeSort leD)) := by
  unfold gSorted at h
  split at h
  · obtain ⟨h1, h2⟩ := ite_ret h
    exact ⟨_, .inl rfl, h1, h2⟩
  · obtain ⟨h1, h2⟩ := ite_ret h
    exact ⟨_, .inr rfl, h1, h2⟩
  · exact h.elim
/-- values with their data -/
theorem Reps.each {N : Addr → Prop} {H : Hp} : ∀ {ds : List D} {vs : List V} {us : List Value}, Reps G N H ds vs → Vals vs us → ∃ bs : List (V × D), bs.map (·.1) = vs ∧ bs.map (·.2) = ds ∧ PySem.W.EachIs (fun u b => RelV b.1 u) us bs ∧ ∀ b ∈ bs, Rep G N H b.2 b.1
  | [], _, _, h, r => by
    rw [show _ = [] from h] at r ⊢
    cases r
    exact ⟨[], rfl, rfl, .nil, fun b hb => by cases hb⟩
  | d :: ds, _, _, ⟨w, ws, e, r, rs⟩, rv => by
    subst e
    cases rv with
    | cons r1 r2 =>
      obtain ⟨bs, h1, h2, h3, h4⟩ := Reps.each rs r2
      refine ⟨(w, d) :: bs, by rw [List.map_cons, h1], by rw [List.map_cons, h2], .cons r1 h3, fun b hb => ?_⟩
      rcases List.mem_cons.mp hb with e | hb
      · rw [e]; exact r
      · exact h4 b hb
theorem Reps.of_each {N : Addr → Prop} {H : Hp} : ∀ {bs : List (V × D)}, (∀ b ∈ bs, Rep G N H b.2 b.1) → Reps G N H (bs.map (·.2)) (bs.map (·.1))
  | [], _ => rfl
  | b :: bs, h => ⟨b.1, _, rfl, h b List.mem_cons_self, Reps.of_each fun b' hb => h b' (List.mem_cons_of_mem _ hb)⟩
theorem vals_each : ∀ {us : List Value} {bs : List (V × D)}, PySem.W.EachIs (fun u b => RelV b.1 u) us bs → Vals (bs.map (·.1)) us
  | _, _, .nil => .nil
  | _, _, .cons h t => .cons h (vals_each t)
theorem bl_sorted (Z : X.K = G.K) (hu : X.A.units + 65 < cLine) : CallR X (.builtin "sorted") (rD G gSorted) := by
  intro pins s σ H xs us Q I r h
  obtain ⟨N, ds, rr, q⟩ := h
  obtain ⟨xs, hx, ok, q⟩ := gSorted_inv q
  have main : ∀ (a : Addr) (vs : List V) (its : List Value) (T : String) (o : Obj) (n : Nat), Reps G N H xs vs → Vals vs its → (T = "list" ∨ T = "tuple") → s.heap.get? a = some o → o.cls = .type T → o.data = .seq its.toArray n → wpAny (model X.prog X.w) X.A (call (.builtin "sorted") [.ref a]) (EP X pins σ Q) X.xe s := by
    intro a vs its T o n rs rv hT ho hc hd
    obtain ⟨bs, e1, e2, e3, e4⟩ := rs.each rv
    unfold sortOk at ok
    simp only [Bool.and_eq_true, Bool.or_eq_true, List.all_eq_true, decide_eq_true_eq] at ok
    obtain ⟨⟨⟨ok1, ok2⟩, ok3⟩, ok4⟩ := ok
    have mem : ∀ b ∈ bs, b.2 ∈ xs := fun b hb => by rw [← e2]; exact List.mem_map.mpr ⟨b, hb, rfl⟩
    have er : PySem.W.EachIs (fun v b => ∃ as, Reads s.heap v (encD b.2) as) its bs := (PySem.W.each_mem e3).mono fun u b ⟨ru, hb⟩ => by
      obtain ⟨p, hp⟩ := Option.isSome_iff_exists.mp (ok1 _ (mem b hb)).1
      have : encD b.2 = p := by unfold encD; rw [hp]; rfl
      rw [this]
      exact Dp.reads I p b.1 u (Z ▸ (e4 b hb).dp hp) ru
    have hlen : bs.length = xs.length := by rw [← e2, List.length_map]
    refine sorted_seq (enc := fun b : V × D => encD b.2) hT ho hc hd e3 er (fun p hp p' hp' => ?_) ?_ (by rw [hlen]; exact ok4) (fun b hb => ?_) fun h1 h' out c k1 k2 hat hol hout => ?_
    · obtain ⟨b, hb, rfl⟩ := List.mem_map.mp hp
      obtain ⟨b', hb', rfl⟩ := List.mem_map.mp hp'
      exact ok2 _ (mem b hb) _ (mem b' hb')
    · rcases ok3 with ok3 | ok3
      · refine .inl fun p hp => ?_
        obtain ⟨b, hb, rfl⟩ := List.mem_map.mp hp
        have := ok3 _ (mem b hb)
        revert this
        show (match encD b.2 with | .tuple (_ :: _) => true | _ => false) = true → _
        split
        · exact fun _ => ⟨_, _, by assumption⟩
        · exact fun z => nomatch z
      · refine .inr fun p hp => ?_
        obtain ⟨b, hb, rfl⟩ := List.mem_map.mp hp
        have := ok3 _ (mem b hb)
        revert this
        show (match encD b.2 with | .tuple _ => false | .none => false | _ => true) = true → encD b.2 ≠ .none ∧ ∀ xs, encD b.2 ≠ .tuple xs
        split
        · exact fun z => nomatch z
        · exact fun z => nomatch z
        · exact fun _ => ⟨by assumption, by assumption⟩
    · have := (ok1 _ (mem b hb)).2
      show X.A.units + 2 + (encD b.2).depth < cLine
      omega
    · have I1 : Inv X pins σ H { s with heap := h1 } := I.kept (t' := s.toks) k1
      have hs : (bs.mergeSort (PySem.W.dataLe false fun b : V × D => encD b.2)).map (·.2) = xs.mergeSort leD := by
        rw [← e2, List.map_mergeSort]
        intro a _ b _
        rfl
      have rv' := vals_each hout
      have hz : ((bs.mergeSort (PySem.W.dataLe false fun b : V × D => encD b.2)).map (·.1)).length ≤ sizeLine := by rw [List.length_map, List.length_mergeSort, hlen]; exact ok4
      have I2 : Inv X pins σ (upd H h1.objs.size (.lst ((bs.mergeSort (PySem.W.dataLe false fun b : V × D => encD b.2)).map (·.1)))) { s with heap := h' } :=
        I1.laid (t' := s.toks) k2 (Nat.le_refl _) (show ObjOk X.prog X.w _ h' _ (.lst _) from ⟨hz, out, c, rv', hat⟩)
      refine ⟨.ref h1.objs.size, _, I2, rfl, new_lst ?_ q _ (I1.hok.fresh (Nat.le_refl _))⟩
      rw [← hs]
      exact Reps.of_each fun b hb => e4 b (List.mem_mergeSort.mp hb)
  rcases hx with rfl | rfl
  · obtain ⟨v, rfl, a, vs, rfl, n, e, rs⟩ := rr.one_inv
    obtain ⟨u, rfl, rx⟩ := vals1 r
    cases rx
    obtain ⟨its, rv, p, hz⟩ := I.list (SqL.of (K := X.K) e)
    obtain ⟨o, ho, hc, n, hd⟩ := p.isList
    exact main a vs its _ o n rs rv (.inl rfl) ho hc hd
  · obtain ⟨v, rfl, a, vs, rfl, e, rs⟩ := rr.one_inv
    obtain ⟨u, rfl, rx⟩ := vals1 r
    cases rx
    obtain ⟨its, rv, p, hz⟩ := I.tuple (Z ▸ e.sq)
    obtain ⟨o, ho, hc, n, hd⟩ := p
    exact main a vs its _ o n rs rv (.inr rfl) ho hc hd
end
end Fb
end

section
set_option Elab.async false
set_option linter.all false
set_option maxRecDepth 100000
set_option maxHeartbeats 4000000
/-! Changes of what a slot holds alone; methods. -/
namespace Fb
open PySem PySem.Spec PyProof.Rows L2
section
variable {G : Wd} {H0 H H1 : Hp} {N0 : Addr → Prop} {S : Nat → Option Addr} {σ : Fb.St} {ρ : En}
theorem Out.notS {i : Nat} {a : Addr} (h : S i = some a) : ¬ Out N0 H0 S a := fun z => z.2 i h
theorem OwnT.monoX {N N' : Addr → Prop} {a : Addr} {d : D} {H' : Hp} (hN : ∀ b, N b → H b ≠ none → N' b) (hL : LeX N H H') (ha : H' a = H a) (h : OwnT G N H a d) : OwnT G N' H' a d := by
  cases d with
  | lst ds => obtain ⟨vs, e, r⟩ := h; exact ⟨vs, ha.trans e, r.monoX hN hL⟩
  | dic ds => obtain ⟨vs, e, r⟩ := h; exact ⟨vs, ha.trans e, RepK.monoX hN hL r⟩
  | _ => exact h.elim
/-- what slot i holds alone is changed -/
theorem OwnOk.mut {i : Nat} {a : Addr} {d d' : D} {u : HO} (o : OwnOk G H0 N0 S σ H ρ) (hi : ρ[i]? = some (some (true, d))) (hS : S i = some a) (w : OwnT G (Out N0 H0 S) (upd H a u) a d') : OwnOk G H0 N0 S σ (upd H a u) (ρ.set i (some (true, d'))) := by
  obtain ⟨x, hx, kx⟩ := o.kind i a hS
  have lx : LeX (Out N0 H0 S) H (upd H a u) := LeX.upd hx kx (Out.notS hS)
  refine ⟨fun j b e => ⟨(o.new j b e).1, ?_⟩, fun j b e => ?_, o.inj, fun j d2 e => ?_, fun j d2 e => ?_⟩
  · by_cases hb : b = a
    · rw [hb, upd_same]; exact fun z => nomatch z
    · rw [upd_ne hb]; exact (o.new j b e).2
  · by_cases hb : b = a
    · rw [hb]; exact w.kind
    · rw [upd_ne hb]; exact o.kind j b e
  · by_cases hj : j = i
    · subst hj
      rw [List.getElem?_set_self'] at e
      rw [hi] at e
      cases e
    · rw [List.getElem?_set_ne (Ne.symm hj)] at e
      obtain ⟨v, e1, r1⟩ := o.shr j d2 e
      exact ⟨v, e1, r1.monoX (fun _ n _ => n) lx⟩
  · by_cases hj : j = i
    · subst hj
      rw [List.getElem?_set_self', hi] at e
      cases e
      obtain ⟨b, e1, e2, r1⟩ := o.own j d hi
      rw [hS] at e2
      cases e2
      exact ⟨a, e1, hS, w⟩
    · rw [List.getElem?_set_ne (Ne.symm hj)] at e
      obtain ⟨b, e1, e2, r1⟩ := o.own j d2 e
      refine ⟨b, e1, e2, r1.monoX (fun _ n _ => n) lx (upd_ne fun z => hj (o.inj j i a (z ▸ e2) hS))⟩
theorem SRel.upd {a : Addr} {u : HO} {i : Nat} (h0 : Same1 G H0 H) (o : OwnOk G H0 N0 S σ H ρ) (hS : S i = some a) : Same1 G H0 (upd H a u) := ⟨Same.updN h0.toSame (o.new i a hS).1 (.inr (o.kind i a hS)), tabs_upd h0.tb (.inr (let ⟨u, e, h⟩ := o.kind i a hS; ⟨u, e, isM_no h⟩))⟩
theorem frzFrom_keep {fz : List Nat} : ∀ {ρ : En} {k i : Nat}, k + i ∉ fz → (frzFrom fz k ρ)[i]? = ρ[i]?
  | [], _, _, _ => rfl
  | none :: r, k, 0, _ => rfl
  | some (b, d) :: r, k, 0, h => by
    have : k ∉ fz := by simpa using h
    simp [frzFrom, this]
  | none :: r, k, i + 1, h => by simpa [frzFrom] using frzFrom_keep (ρ := r) (k := k + 1) (i := i) (by rwa [Nat.add_assoc, Nat.add_comm 1 i])
  | some (b, d) :: r, k, i + 1, h => by simpa [frzFrom] using frzFrom_keep (ρ := r) (k := k + 1) (i := i) (by rwa [Nat.add_assoc, Nat.add_comm 1 i])
theorem frz_keep {fz : List Nat} {i : Nat} (h : i ∉ fz) : (frz fz ρ)[i]? = ρ[i]? := frzFrom_keep (by rwa [Nat.zero_add])
/-- the slots behind the taking of d into what slot i holds -/
def tak (fz : List Nat) (i : Nat) (d : D) (ρ : En) : Option En := if imm d = true then some ρ else if i ∈ fz then none else some (frz fz ρ)
/-- .. d can be put into it -/
theorem OwnOk.take (o : OwnOk G H0 N0 S σ H ρ) (h0 : Same G H0 H) (s : Same G H H1) {fz : List Nat} {i : Nat} {d : D} {v : V} {ρ' : En} (t : tak fz i d ρ = some ρ') (q : Rep G (Fr (Out N0 H0 (cut fz S)) H) H1 d v) :
    ∃ S', OwnOk G H0 N0 S' σ H1 ρ' ∧ ρ'.length = ρ.length ∧ ρ'[i]? = ρ[i]? ∧ Rep G (Out N0 H0 S') H1 d v := by
  unfold tak at t
  by_cases hi : imm d = true
  · rw [if_pos hi] at t
    cases t
    exact ⟨S, o.same s, rfl, rfl, Rep.imm hi q⟩
  · rw [if_neg hi] at t
    by_cases hf : i ∈ fz
    · rw [if_pos hf] at t; cases t
    · rw [if_neg hf] at t
      cases t
      refine ⟨cut fz S, (o.frz fz).same s, frz_len, frz_keep hf, q.sub fun c hc => hc.elim id fun z => ⟨.inr (h0.free z), fun j w => ?_⟩⟩
      exact (o.new j c (cut_some w).1).2 z
end
/-- with what is there -/
def W.got {ε α β : Type} (o : Option α) (k : α → W ε β) : W ε β := match o with
  | some a => k a
  | none => W.fail
theorem got_mono {ε α β : Type} {o : Option α} {k : α → W ε β} (h : ∀ a, W.Mono (k a)) : W.Mono (W.got o k) := by
  cases o with
  | none => exact W.Mono.fail
  | some a => exact h a
theorem got_inv {ε α β : Type} {o : Option α} {k : α → W ε β} {Q : β → Prop} {E : ε → Prop} (h : W.got o k Q E) : ∃ a, o = some a ∧ k a Q E := by
  cases o with
  | none => exact h.elim
  | some a => exact ⟨a, rfl, h⟩
def slotL : Option (Option (Bool × D)) → Option (List D)
  | some (some (true, .lst ds)) => some ds
  | _ => none
def slotK : Option (Option (Bool × D)) → Option (List (Key × D))
  | some (some (true, .dic ds)) => some ds
  | _ => none
theorem slotL_inv {o : Option (Option (Bool × D))} {ds : List D} (h : slotL o = some ds) : o = some (some (true, .lst ds)) := by
  unfold slotL at h
  split at h
  · cases h; rfl
  · cases h
theorem slotK_inv {o : Option (Option (Bool × D))} {ds : List (Key × D)} (h : slotK o = some ds) : o = some (some (true, .dic ds)) := by
  unfold slotK at h
  split at h
  · cases h; rfl
  · cases h
def mApp (fz : List Nat) (i : Nat) (m : Ro → W Ex D) : En → WS := fun ρ => W.got (slotL ρ[i]?) fun ds => W.bind (up ρ (m (see fz ρ))) fun d => W.got (tak fz i d ρ) fun ρ' => if ds.length < sizeLine then W.ret (.nx, ρ'.set i (some (true, .lst (ds ++ [d])))) else W.fail
section
variable {G : Wd} {X : Cx} {Wx : WX}
/-- a value seen with fz, to be put into what slot i holds -/
theorem DE.inF {e : Expr} {m : Ro → W Ex D} (h : DE G X Wx e m) {H0 H : Hp} {N0 : Addr → Prop} {σ : Fb.St} {ρ : En} {S : Nat → Option Addr} (h0 : Same1 G H0 H) (hl : ρ.length = σ.length) (o : OwnOk G H0 N0 S σ H ρ) (fz : List Nat) {Q : VK} {P : D → Prop} (q : up ρ (m (see fz ρ)) P (PoXS G H0 N0 Wx))
    (hP : ∀ r v H1, P r → Same G H H1 → Rep G (Fr (Out N0 H0 (cut fz S)) H) H1 r v → Q v H1) : tE G Wx m σ H Q := by
  refine ⟨_, _, o.sees h0.tb fz, (h.mono _).run (fun r z v H1 s1 r1 => hP r v H1 z s1 r1) (fun x z => ?_) q⟩
  intro c dd H' s r
  exact z σ c dd H' ⟨h0.trans s, hl, _, o.same s⟩ (r.mono fun _ y => y.out h0)
theorem ds_append {i : Nat} {x : Str} {e : Expr} {m : Ro → W Ex D} {p apos cpos pos : Pos} (fz : List Nat) (hv : PE X (.Name x p) (tVar i)) (he : DE G X Wx e m)
    (hs : swapsWith (.Call (.Attribute (.Name x p) "append" apos) [e] [] cpos) none pos.line X.env = pure false := by rfl)
    (hbase : attributeBase (.Name x p) "append" X.env (eval (.Name x p) X.env) = eval (.Name x p) X.env := by rfl)
    (hfew : ((backTo cpos (starEach [e] X.env)).all (fun x => !x.1) && (backToKw cpos (keywordEach [] X.env)).all (fun x => x.1.isSome)
      && decide (([e] : List Expr).length + ([] : List Keyword).length + (if ([] : List Keyword).isEmpty then 0 else 1) < 30)) = true := by rfl)
    (hline : (apos.endLine == cpos.line) = true := by rfl) (hst : starEach [e] X.env = (false, eval e X.env) :: starEach [] X.env := by rfl) (hplain : (backTo cpos (starEach [] X.env)).any (·.1) = false := by rfl) :
    DS G X Wx (.Expr (.Call (.Attribute (.Name x p) "append" apos) [e] [] cpos) pos) (mApp fz i m) := by
  refine DS.imp (fun ρ => got_mono fun ds => (Mono.up (he.mono _)).bind fun d => got_mono fun _ => ite_mono W.Mono.ret W.Mono.fail) (ps_expr (pe_bm PySem.F.plainAttrs_list PySem.F.slot_list_append PySem.F.type_list_append mt_append hv (pa_cons he.pe pa_nil hst) hbase hfew hline hst hplain) hs) fun H0 N0 ρ σ H D' r q => ?_
  obtain ⟨S, o⟩ := r.own
  obtain ⟨ds, hd, q⟩ := got_inv q
  have hd := slotL_inv hd
  obtain ⟨a, ea, eS, vs, hvs, _⟩ := o.own i _ hd
  refine ⟨.ref a, ea, .inl ⟨rfl, vs, .of hvs⟩, he.inF r.same r.len o fz q fun d v H1 z s1 r1 => ?_⟩
  obtain ⟨ρ', ht, z⟩ := got_inv z
  obtain ⟨hz, z⟩ := ite_ret z
  obtain ⟨S', o', hl', hi', rv⟩ := o.take r.same s1 ht r1
  have hd' : ρ'[i]? = some (some (true, .lst ds)) := hi'.trans hd
  obtain ⟨b, eb, eS', ws, hws, rs⟩ := o'.own i _ hd'
  rw [ea] at eb
  cases eb
  have hvw : ws = vs := by rw [s1.at hvs] at hws; cases hws; rfl
  subst hvw
  refine ⟨a, ws, v, rfl, rfl, hws, by rw [rs.length]; exact hz, ?_⟩
  obtain ⟨u, hu, ku⟩ := o'.kind i a eS'
  have lx : LeX (Out N0 H0 S') H1 (upd H1 a (.lst (ws ++ [v]))) := LeX.upd hu ku (Out.notS eS')
  exact z _ _ ⟨SRel.upd (r.same.trans s1) o' eS', by rw [List.length_set, hl']; exact r.len, S', o'.mut hd' eS' ⟨_, upd_same, (rs.app (.one rv)).monoX (fun _ n _ => n) lx⟩⟩
/-- x.extend(e) -/
def taks (fz : List Nat) (i : Nat) (es : List D) (ρ : En) : Option En := if imms es = true then some ρ else if i ∈ fz then none else some (frz fz ρ)
theorem OwnOk.takes {H0 H H1 : Hp} {N0 : Addr → Prop} {S : Nat → Option Addr} {σ : Fb.St} {ρ : En} (o : OwnOk G H0 N0 S σ H ρ) (h0 : Same G H0 H) (s : Same G H H1) {fz : List Nat} {i : Nat} {d : List D} {v : List V} {ρ' : En} (t : taks fz i d ρ = some ρ') (q : Reps G (Fr (Out N0 H0 (cut fz S)) H) H1 d v) :
    ∃ S', OwnOk G H0 N0 S' σ H1 ρ' ∧ ρ'.length = ρ.length ∧ ρ'[i]? = ρ[i]? ∧ Reps G (Out N0 H0 S') H1 d v := by
  unfold taks at t
  by_cases hi : imms d = true
  · rw [if_pos hi] at t
    cases t
    exact ⟨S, o.same s, rfl, rfl, Reps.imm hi q⟩
  · rw [if_neg hi] at t
    by_cases hf : i ∈ fz
    · rw [if_pos hf] at t; cases t
    · rw [if_neg hf] at t
      cases t
      refine ⟨cut fz S, (o.frz fz).same s, frz_len, frz_keep hf, q.sub fun c hc => hc.elim id fun z => ⟨.inr (h0.free z), fun j w => ?_⟩⟩
      exact (o.new j c (cut_some w).1).2 z
def asL : D → Option (List D)
  | .lst ds => some ds
  | _ => none
theorem asL_inv {d : D} {es : List D} (h : asL d = some es) : d = .lst es := by
  cases d <;> first | (cases h; done) | skip
  cases h; rfl
def mExt (fz : List Nat) (i : Nat) (m : Ro → W Ex D) : En → WS := fun ρ => W.got (slotL ρ[i]?) fun ds => W.bind (up ρ (m (see fz ρ))) fun d => W.got (asL d) fun es => W.got (taks fz i es ρ) fun ρ' => if ds.length + es.length ≤ sizeLine then W.ret (.nx, ρ'.set i (some (true, .lst (ds ++ es)))) else W.fail
theorem ds_extend {i : Nat} {x : Str} {e : Expr} {m : Ro → W Ex D} {p apos cpos pos : Pos} (fz : List Nat) (hv : PE X (.Name x p) (tVar i)) (he : DE G X Wx e m)
    (hs : swapsWith (.Call (.Attribute (.Name x p) "extend" apos) [e] [] cpos) none pos.line X.env = pure false := by rfl)
    (hbase : attributeBase (.Name x p) "extend" X.env (eval (.Name x p) X.env) = eval (.Name x p) X.env := by rfl)
    (hfew : ((backTo cpos (starEach [e] X.env)).all (fun x => !x.1) && (backToKw cpos (keywordEach [] X.env)).all (fun x => x.1.isSome)
      && decide (([e] : List Expr).length + ([] : List Keyword).length + (if ([] : List Keyword).isEmpty then 0 else 1) < 30)) = true := by rfl)
    (hline : (apos.endLine == cpos.line) = true := by rfl) (hst : starEach [e] X.env = (false, eval e X.env) :: starEach [] X.env := by rfl) (hplain : (backTo cpos (starEach [] X.env)).any (·.1) = false := by rfl) :
    DS G X Wx (.Expr (.Call (.Attribute (.Name x p) "extend" apos) [e] [] cpos) pos) (mExt fz i m) := by
  refine DS.imp (fun ρ => got_mono fun ds => (Mono.up (he.mono _)).bind fun d => got_mono fun _ => got_mono fun _ => ite_mono W.Mono.ret W.Mono.fail) (ps_expr (pe_bm PySem.F.plainAttrs_list PySem.F.slot_list_extend PySem.F.type_list_extend mt_extend hv (pa_cons he.pe pa_nil hst) hbase hfew hline hst hplain) hs) fun H0 N0 ρ σ H D' r q => ?_
  obtain ⟨S, o⟩ := r.own
  obtain ⟨ds, hd, q⟩ := got_inv q
  have hd := slotL_inv hd
  obtain ⟨a, ea, eS, vs, hvs, _⟩ := o.own i _ hd
  refine ⟨.ref a, ea, .inl ⟨rfl, vs, .of hvs⟩, he.inF r.same r.len o fz q fun d v H1 z s1 r1 => ?_⟩
  obtain ⟨es, hes, z2⟩ := got_inv z
  obtain ⟨ρ', ht, z3⟩ := got_inv z2
  obtain ⟨hz, z⟩ := ite_ret z3
  rw [asL_inv hes] at r1
  obtain ⟨c, zs, rfl, nc, hc, rz⟩ := r1
  obtain ⟨S', o', hl', hi', rv⟩ := o.takes r.same s1 ht rz
  have hd' : ρ'[i]? = some (some (true, .lst ds)) := hi'.trans hd
  obtain ⟨b, eb, eS', ws, hws, rs⟩ := o'.own i _ hd'
  rw [ea] at eb
  cases eb
  have hvw : ws = vs := by rw [s1.at hvs] at hws; cases hws; rfl
  subst hvw
  refine ⟨a, c, ws, zs, rfl, rfl, hws, hc, by rw [rs.length, rz.length]; exact hz, ?_⟩
  obtain ⟨u, hu, ku⟩ := o'.kind i a eS'
  have lx : LeX (Out N0 H0 S') H1 (upd H1 a (.lst (ws ++ zs))) := LeX.upd hu ku (Out.notS eS')
  exact z _ _ ⟨SRel.upd (r.same.trans s1) o' eS', by rw [List.length_set, hl']; exact r.len, S', o'.mut hd' eS' ⟨_, upd_same, (rs.app rv).monoX (fun _ n _ => n) lx⟩⟩
/-- x[k] = e, x a dict -/
def mDput (fz : List Nat) (i : Nat) (mk m : Ro → W Ex D) : En → WS := fun ρ => W.got (slotK ρ[i]?) fun kvs => W.bind (up ρ (m (see fz ρ))) fun d => W.bind (up ρ (mk (ro ρ))) fun k => W.got (keyOf k) fun ky => W.got (tak fz i d ρ) fun ρ' => if kvs.length < sizeLine then W.ret (.nx, ρ'.set i (some (true, .dic (putD kvs ky d)))) else W.fail
theorem ds_dput {i : Nat} {x : Str} {k e : Expr} {mk m : Ro → W Ex D} {p pos' pos : Pos} (fz : List Nat) (hu : X.A.units + 65 < cLine) (hv : PE X (.Name x p) (tVar i)) (hk : DE G X Wx k mk) (he : DE G X Wx e m) (hs : swapsWith e (some (.Subscript (.Name x p) k pos')) pos.line X.env = pure false := by rfl) :
    DS G X Wx (.Assign [.Subscript (.Name x p) k pos'] e pos) (mDput fz i mk m) := by
  refine DS.imp (fun ρ => got_mono fun _ => (Mono.up (he.mono _)).bind fun d => (Mono.up (hk.mono _)).bind fun d => got_mono fun _ => got_mono fun _ => ite_mono W.Mono.ret W.Mono.fail) (ps_dput (by omega) hv hk.pe he.pe hs) fun H0 N0 ρ σ H D' r q => ?_
  obtain ⟨S, o⟩ := r.own
  obtain ⟨kvs, hd, q⟩ := got_inv q
  have hd0 := slotK_inv hd
  refine he.inF r.same r.len o fz q fun d v H1 z s1 r1 => ?_
  have r' := r.step s1
  obtain ⟨a, ea, eS, vs, hvs, _⟩ := o.own i _ hd0
  refine ⟨.ref a, ea, hk.inS r' z fun ky vk H2 z r2 s2 rk => ?_⟩
  obtain ⟨kk, hkk, z2⟩ := got_inv z
  obtain ⟨ρ', ht, z3⟩ := got_inv z2
  obtain ⟨hz, z⟩ := ite_ret z3
  obtain ⟨S', o', hl', hi', rv⟩ := o.take r.same (s1.trans s2) ht (r1.same s2)
  have hd' : ρ'[i]? = some (some (true, .dic kvs)) := hi'.trans hd0
  obtain ⟨b, eb, eS', ws, hws, rs⟩ := o'.own i _ hd'
  rw [ea] at eb
  cases eb
  have hl : ws.length < sizeLine := by rw [rs.length]; exact hz
  refine ⟨a, _, rfl, by rw [rk.key hkk]; exact DPut.k hws hl, ?_⟩
  obtain ⟨u, hu, ku⟩ := o'.kind i a eS'
  have lx : LeX (Out N0 H0 S') H2 (upd H2 a (.dK (putK ws kk v))) := LeX.upd hu ku (Out.notS eS')
  exact z _ _ ⟨SRel.upd ((r.same.trans s1).trans s2) o' eS', by rw [List.length_set, hl']; exact r.len, S', o'.mut hd' eS' ⟨_, upd_same, RepK.monoX (fun _ n _ => n) lx (rs.put rv)⟩⟩
/-! ### methods that only read -/
def asK : D → Option (List (Key × D))
  | .dic ds => some ds
  | _ => none
theorem asK_inv {d : D} {es : List (Key × D)} (h : asK d = some es) : d = .dic es := by
  cases d <;> first | (cases h; done) | skip
  cases h; rfl
/-- d.get(k) -/
def mGet1 (m n : Ro → W Ex D) : Ro → W Ex D := fun ρ => W.bind (m ρ) fun x => W.got (asK x) fun kvs => W.bind (n ρ) fun y => W.got (keyOf y) fun k => W.ret ((lookK kvs k).getD .non)
def mGet2 (m n o : Ro → W Ex D) : Ro → W Ex D := fun ρ => W.bind (m ρ) fun x => W.got (asK x) fun kvs => W.bind (n ρ) fun y => W.got (keyOf y) fun k => W.bind (o ρ) fun z => W.ret ((lookK kvs k).getD z)
theorem RepK.getD {N : Addr → Prop} {H : Hp} {kvs : List (Key × D)} {ks : List (Key × V)} {k : Key} {d : D} {v : V} (r : RepK G N H kvs ks) (rv : Rep G N H d v) : Rep G N H ((lookK kvs k).getD d) ((valV ks k).getD v) := by
  have lk := r.look (k := k)
  rcases e : lookK kvs k with _ | d'
  · rw [e] at lk
    rw [show valV ks k = none from lk]
    exact rv
  · rw [e] at lk
    obtain ⟨w, hw, rw'⟩ := (lk : ∃ v, valV ks k = some v ∧ Rep G N H d' v)
    rw [hw]
    exact rw'
theorem de_get1 {o e : Expr} {m n : Ro → W Ex D} {apos cpos : Pos} (hu : X.A.units + 65 < cLine) (ho : DE G X Wx o m) (he : DE G X Wx e n) (mm : M1 X o "get" apos e cpos) : DE G X Wx (.Call (.Attribute o "get" apos) [e] [] cpos) (mGet1 m n) := by
  refine DE.imp (fun ρ => (ho.mono ρ).bind fun x => got_mono fun _ => (he.mono ρ).bind fun y => got_mono fun _ => W.Mono.ret) (pe_dget1 (by omega) ho.pe he.pe mm) fun N ρ σ H Q r q => ?_
  refine ho.go r q (fun x z => z) fun d v H1 z s1 r1 rr => ?_
  obtain ⟨kvs, hk, z⟩ := got_inv z
  rw [asK_inv hk] at r1
  obtain ⟨a, ks, rfl, na, ha, rs⟩ := r1
  refine ⟨a, rfl, .inl ⟨ks, ha⟩, he.go rr z (fun x z => z.step s1) fun y w H2 z s2 r2 _ => ?_⟩
  obtain ⟨k, hky, z⟩ := got_inv z
  have ha2 := (Le.of s2).rd (fun _ _ y => by cases y) (fun _ y => by cases y) ha
  have rs2 := RepK.mono (fun _ n _ => n) (Le.of s2) rs
  refine ⟨valV ks k, by rw [r2.key hky]; exact rs2.dget ha2, z _ H2 (s1.trans s2) (rs2.getD rfl)⟩
theorem de_get2 {o e f : Expr} {m n l : Ro → W Ex D} {apos cpos : Pos} (hu : X.A.units + 65 < cLine) (ho : DE G X Wx o m) (he : DE G X Wx e n) (hf : DE G X Wx f l) (mm : M2 X o "get" apos e f cpos) : DE G X Wx (.Call (.Attribute o "get" apos) [e, f] [] cpos) (mGet2 m n l) := by
  refine DE.imp (fun ρ => (ho.mono ρ).bind fun x => got_mono fun _ => (he.mono ρ).bind fun y => got_mono fun _ => (hf.mono ρ).bind fun _ => W.Mono.ret) (pe_dget2 (by omega) ho.pe he.pe hf.pe mm) fun N ρ σ H Q r q => ?_
  refine ho.go r q (fun x z => z) fun d v H1 z s1 r1 rr => ?_
  obtain ⟨kvs, hk, z⟩ := got_inv z
  rw [asK_inv hk] at r1
  obtain ⟨a, ks, rfl, na, ha, rs⟩ := r1
  refine ⟨a, rfl, .inl ⟨ks, ha⟩, he.go rr z (fun x z => z.step s1) fun y w H2 z s2 r2 rr2 => ?_⟩
  obtain ⟨k, hky, z⟩ := got_inv z
  refine hf.go rr2 z (fun x z => z.step (s1.trans s2)) fun dd u H3 z s3 r3 _ => ?_
  have ha2 := (Le.of (s2.trans s3)).rd (fun _ _ y => by cases y) (fun _ y => by cases y) ha
  have rs2 := RepK.mono (fun _ n _ => n) (Le.of (s2.trans s3)) rs
  refine ⟨valV ks k, by rw [r2.key hky]; exact rs2.dget ha2, z _ H3 ((s1.trans s2).trans s3) (rs2.getD (r3.sub fun _ y => y.step (s1.trans s2)))⟩
end
end Fb
end

section
set_option Elab.async false
set_option linter.all false
set_option maxRecDepth 100000
set_option maxHeartbeats 4000000
/-! a, b = x, y; a, b = e. -/
namespace Fb
open PySem PySem.Spec PyProof.Rows L2
abbrev Pm := Nat × List Nat × (Ro → W Ex (Bool × D))
def parN (ρ0 : En) : List Pm → List Nat → En → W (Ex × En) En
  | [], _, ρ => W.ret ρ
  | (i, fz, m) :: r, hid, ρ => W.bind (up ρ0 (m (wipeR (see fz ρ) hid))) fun x => parN ρ0 r (i :: hid) (asg fz i x ρ)
theorem parN_mono {ρ0 : En} : ∀ {ms : List Pm} (h : ∀ m ∈ ms, ∀ ρ, W.Mono (m.2.2 ρ)) (hid : List Nat) (ρ : En), W.Mono (parN ρ0 ms hid ρ)
  | [], _, _, _ => W.Mono.ret
  | (i, fz, m) :: r, h, hid, ρ => (Mono.up (h _ List.mem_cons_self _)).bind fun x => parN_mono (fun m hm => h m (List.mem_cons_of_mem _ hm)) _ _
def mPar (ms : List Pm) : En → WS := fun ρ => W.bind (parN ρ ms [] ρ) fun ρ' => W.ret (.nx, ρ')
section
variable {G : Wd} {X : Cx} {Wx : WX}
def slotsOf (ms : List Pm) (vs : List V) : List (Nat × V) := (ms.map (·.1)).zip vs
def tP (G : Wd) (Wx : WX) (ms : List Pm) : TA := fun σ H Q => ∃ H0 N0 ρ0 ws ρ hid, SRel G H0 N0 σ H ρ0 ∧ SRel G H0 N0 (setV σ ws) H ρ ∧ (∀ w ∈ ws, w.1 ∈ hid) ∧
  parN ρ0 ms hid ρ (fun ρ' => ∀ vs H', vs.length = ms.length → SRel G H0 N0 (setV σ (ws ++ slotsOf ms vs)) H' ρ' → Q vs H') (PoXS G H0 N0 Wx)
structure DPs (G : Wd) (X : Cx) (Wx : WX) (es : List Expr) (ms : List Pm) : Prop where
  pa : PA X es (tP G Wx ms)
  mono : ∀ m ∈ ms, ∀ ρ, W.Mono (m.2.2 ρ)
theorem dps_nil : DPs G X Wx [] [] := ⟨⟨fun pos pins s σ H Q I ⟨H0, N0, ρ0, ws, ρ, hid, r0, r, hw, q⟩ => pa_nil.run pos pins s σ H Q I (q [] H rfl (by simpa [slotsOf] using r))⟩, fun m hm => by cases hm⟩
theorem dps_cons {e : Expr} {es : List Expr} {m : Ro → W Ex (Bool × D)} {ms : List Pm} (i : Nat) (fz : List Nat) (h : DR G X Wx e m) (hs : DPs G X Wx es ms) (st : starEach (e :: es) X.env = (false, eval e X.env) :: starEach es X.env := by rfl) : DPs G X Wx (e :: es) ((i, fz, m) :: ms) := by
  refine ⟨⟨fun pos pins s σ H Q I q => (pa_cons h.pe hs.pa st).run pos pins s σ H Q I ?_⟩, fun m' hm => ?_⟩
  · obtain ⟨H0, N0, ρ0, ws, ρ, hid, r0, r, hw, q⟩ := q
    obtain ⟨S, o⟩ := r.own
    have er : ERel G (Out N0 H0 (cut fz S)) H σ (wipeR (see fz ρ) hid) := ⟨r.same.tb, fun j d e => by
      obtain ⟨e1, hj⟩ := wipeR_some e
      obtain ⟨v, e2, r2⟩ := (o.sees r.same.tb fz).get j d e1
      have e3 : (setV σ ws)[j]? = σ[j]? := setV_get fun w hh z => hj (by rw [← z]; exact hw w hh)
      exact ⟨v, e3 ▸ e2, r2⟩⟩
    refine ⟨_, _, er, (h.mono _).run (fun x z v H1 s1 r1 f1 => ?_) (fun x z => ?_) q⟩
    · refine ⟨H0, N0, ρ0, ws ++ [(i, v)], _, i :: hid, r0.step s1, ⟨r.same.trans s1, by rw [asg_len, setV_len]; have := r.len; rw [setV_len] at this; exact this, ?_⟩, fun w hh => ?_, (parN_mono (fun m hm => hs.mono m hm) _ _).run (fun ρ' y vs H' hl r' => ?_) (fun _ y => y) z⟩
      · rw [setV_app]
        exact o.stored fz r.same r.len s1 r1 f1
      · rcases List.mem_append.mp hh with hh | hh
        · exact List.mem_cons_of_mem _ (hw w hh)
        · simp at hh; rw [hh]; exact List.mem_cons_self
      · refine y (v :: vs) H' (by simp [hl]) ?_
        have : ws ++ slotsOf ((i, fz, m) :: ms) (v :: vs) = ws ++ [(i, v)] ++ slotsOf ms vs := by simp [slotsOf]
        rw [this]
        exact r'
    · intro c dd H' s1 r1
      exact z σ c dd H' (r0.step s1) (r1.mono fun _ y => y.out r.same)
  · rcases List.mem_cons.mp hm with e | hm
    · rw [e]; exact h.mono
    · exact hs.mono m' hm
theorem mPar_mono {es : List Expr} {ms : List Pm} (h : DPs G X Wx es ms) (ρ : En) : W.Mono (mPar ms ρ) := (parN_mono h.mono _ _).bind fun _ => W.Mono.ret
theorem par_start {es : List Expr} {ms : List Pm} (h : DPs G X Wx es ms) {H0 H : Hp} {N0 : Addr → Prop} {ρ : En} {σ : Fb.St} {D' : Ends} {Q : List V → Hp → Prop} (r : SRel G H0 N0 σ H ρ) (q : mPar ms ρ (PoS G H0 N0 D') (PoXS G H0 N0 Wx))
    (hQ : ∀ vs H' ρ', vs.length = ms.length → SRel G H0 N0 (setV σ (slotsOf ms vs)) H' ρ' → (∀ H'', Same G H' H'' → D'.nx (setV σ (slotsOf ms vs)) H'') → Q vs H') : tP G Wx ms σ H Q :=
  ⟨H0, N0, ρ, [], ρ, [], r, r, (fun w hw => by cases hw), (parN_mono h.mono _ _).run (fun ρ' y vs H' hl r' => hQ vs H' ρ' hl r' fun H'' s => y _ _ (r'.step s)) (fun _ y => y) q⟩
theorem len2 {α : Type} {vs : List α} (h : vs.length = 2) : ∃ a b, vs = [a, b] := by
  match vs, h with
  | [a, b], _ => exact ⟨a, b, rfl⟩
theorem len3 {α : Type} {vs : List α} (h : vs.length = 3) : ∃ a b c, vs = [a, b, c] := by
  match vs, h with
  | [a, b, c], _ => exact ⟨a, b, c, rfl⟩
/-- the stores are swapped -/
theorem ds_par2 {i j : Nat} {x y : Str} {a b : Expr} {f g : List Nat} {m n : Ro → W Ex (Bool × D)} {px py pt : Pos} {kt k2 pt2} {pos : Pos} (hc : X.calm = true) (hN : X.N.Nodup) (hi : X.N[i]? = some x) (hj : X.N[j]? = some y) (hij : i ≠ j)
    (hx : X.env.scope.names.lookup x = some .local) (hy : X.env.scope.names.lookup y = some .local) (h : DPs G X Wx [a, b] [(i, f, m), (j, g, n)])
    (hw : swappedStores [.Tuple [.Name x px, .Name y py] kt pt] (.Tuple [a, b] k2 pt2) X.env = pure (some [x, y]))
    (hs : swapsWithSole [.Tuple [.Name x px, .Name y py] kt pt] (.Tuple [a, b] k2 pt2) pos.line X.env = pure false := by rfl) :
    DS G X Wx (.Assign [.Tuple [.Name x px, .Name y py] kt pt] (.Tuple [a, b] k2 pt2) pos) (mPar [(i, f, m), (j, g, n)]) := by
  refine DS.imp (mPar_mono h) (ps_par hc hN hi hj hij hx hy h.pa hw hs) fun H0 N0 ρ σ H D' r q => ?_
  refine par_start h r q fun vs H' ρ' hl r' k => ?_
  obtain ⟨v, w, rfl⟩ := len2 hl
  exact ⟨v, w, rfl, k H' (Same.refl H')⟩
theorem ds_par3 {i j l : Nat} {x y z : Str} {a b c : Expr} {f g e : List Nat} {m n o : Ro → W Ex (Bool × D)} {px py pz pt pos : Pos} {kt k2 pt2} (hc : X.calm = true) (hN : X.N.Nodup) (hi : X.N[i]? = some x) (hj : X.N[j]? = some y) (hl : X.N[l]? = some z) (hij : i ≠ j) (hil : i ≠ l) (hjl : j ≠ l)
    (hx : X.env.scope.names.lookup x = some .local) (hy : X.env.scope.names.lookup y = some .local) (hz : X.env.scope.names.lookup z = some .local) (h : DPs G X Wx [a, b, c] [(i, f, m), (j, g, n), (l, e, o)])
    (hw : swappedStores [.Tuple [.Name x px, .Name y py, .Name z pz] kt pt] (.Tuple [a, b, c] k2 pt2) X.env = pure (some [x, y, z]))
    (hs : swapsWithSole [.Tuple [.Name x px, .Name y py, .Name z pz] kt pt] (.Tuple [a, b, c] k2 pt2) pos.line X.env = pure false := by rfl) :
    DS G X Wx (.Assign [.Tuple [.Name x px, .Name y py, .Name z pz] kt pt] (.Tuple [a, b, c] k2 pt2) pos) (mPar [(i, f, m), (j, g, n), (l, e, o)]) := by
  refine DS.imp (mPar_mono h) (ps_par3 hc hN hi hj hl hij hil hjl hx hy hz h.pa hw hs) fun H0 N0 ρ σ H D' r q => ?_
  refine par_start h r q fun vs H' ρ' hl r' k => ?_
  obtain ⟨v, w, u, rfl⟩ := len3 hl
  exact ⟨v, w, u, rfl, k H' (Same.refl H')⟩
/-- they are not: the tuple is made, and unpacked -/
structure NG (X : Cx) (tg : List Expr) (is : List Nat) (g : TGs) : Prop where
  pg : PGs X tg g
  st : ∀ (vs : List V) (σ : Fb.St) (H : Hp) (Q : Fb.St → Hp → Prop), vs.length = is.length → Q (setV σ (is.zip vs)) H → g vs σ H Q
theorem ng_nil : NG X [] [] gNil := ⟨pgs_nil, fun vs σ H Q h q => by
  cases vs with
  | nil => exact ⟨rfl, q⟩
  | cons a b => cases h⟩
theorem ng_cons {x : Str} {p : Pos} {es : List Expr} {i : Nat} {is : List Nat} {g : TGs} (hN : X.N.Nodup) (hi : X.N[i]? = some x) (hx : Loc X.env.scope x) (h : NG X es is g) (hf : X.fn x = true ∨ X.env.scope.names.lookup x = some .local := by first | exact .inl rfl | exact .inr rfl | assumption)
    (hs : (assignEach (.Name x p :: es) X.env).map (·.2) = assign (.Name x p) X.env :: (assignEach es X.env).map (·.2) := by rfl) : NG X (.Name x p :: es) (i :: is) (gCons (gName i) g) := ⟨pgs_cons (pg_name hN hi hx hf) h.pg hs, fun vs σ H Q hl q => by
  cases vs with
  | nil => cases hl
  | cons a b => exact ⟨a, b, rfl, h.st b _ H Q (by simpa using hl) q⟩⟩
theorem ds_parT {es tgs : List Expr} {ms : List Pm} {g : TGs} {k k2 n : Nat} {pt pt2 pos : Pos} (hc : X.calm = true) (h : DPs G X Wx es ms) (hg : NG X tgs (ms.map (·.1)) g) (hz : ms.length ≤ 100) (hnn : ms.length = n := by rfl)
    (hn : (assignEach tgs X.env).length = n := by rfl) (hst : (assignEach tgs X.env).findIdx? (·.1) = none := by rfl)
    (hs : swapsWithSole [.Tuple tgs k pt] (.Tuple es k2 pt2) pos.line X.env = pure false := by rfl) (hw : swappedStores [.Tuple tgs k pt] (.Tuple es k2 pt2) X.env = pure none := by rfl)
    (h1 : (assignEach [.Tuple tgs k pt] X.env).map (·.2) = [assign (.Tuple tgs k pt) X.env] := by rfl) : DS G X Wx (.Assign [.Tuple tgs k pt] (.Tuple es k2 pt2) pos) (mPar ms) := by
  refine DS.imp (mPar_mono h) (ps_asg (pe_tup h.pa) (pg_tup hc hg.pg hn hst) hs hw h1) fun H0 N0 ρ σ H D' r q => ?_
  refine par_start h r q fun vs H' ρ' hl r' kk => ?_
  refine ⟨by rw [hl, sizeLine_eq]; omega, fun p hp => ?_⟩
  have s : Same G H' (upd H' p (.tup vs)) := Same.updN (Same.refl H') hp
  refine ⟨p, vs, rfl, .inl (.inl upd_same), hl.trans hnn, hg.st vs σ _ _ (by rw [List.length_map]; exact hl) (kk _ s)⟩
/-! ### a, b = e -/
def pSeq (n : Nat) (q : List D → Option (List (Nat × D))) : D → Option (List (Nat × D))
  | .tup ds => if ds.length = n then q ds else none
  | .lst ds => if ds.length = n then q ds else none
  | _ => none
def gTL (K : PySem.W.Frag) (n : Nat) (t : TGs) : TG := fun v σ H Q => ∃ a xs, v = .ref a ∧ (SqL K H a xs ∨ SqT K H a xs) ∧ xs.length = n ∧ t xs σ H Q
theorem pg_tl {es : List Expr} {k : Nat} {t : TGs} {n : Nat} {pos : Pos} (hc : X.calm = true) (h : PGs X es t)
    (hn : (assignEach es X.env).length = n := by rfl) (hst : (assignEach es X.env).findIdx? (·.1) = none := by rfl) : PG X (.Tuple es k pos) (gTL X.K n t) := by
  refine ⟨fun pins s σ H v u Q I r hw => ?_⟩
  obtain ⟨a, xs, e, hq | hq, hl, hw⟩ := hw
  · exact (pg_unl hc h hn hst).run pins s σ H v u Q I r ⟨a, xs, e, hq, hl, hw⟩
  · exact (pg_tup hc h hn hst).run pins s σ H v u Q I r ⟨a, xs, e, hq, hl, hw⟩
theorem dg_seq {es : List Expr} {k n : Nat} {gs : TGs} {q : List D → Option (List (Nat × D))} {a : List Nat} {pos : Pos} (Z : X.K = G.K) (hc : X.calm = true) (h : DGs G X es gs q a) (hn : (assignEach es X.env).length = n := by rfl) (hst : (assignEach es X.env).findIdx? (·.1) = none := by rfl) :
    DG G X (.Tuple es k pos) (gTL G.K n gs) (pSeq n q) a := by
  rw [← Z]
  refine ⟨pg_tl hc h.pg hn hst, fun N H d v bs σ Q r e hQ => ?_, fun d bs e b hb => ?_⟩
  · cases d <;> first | (cases e; done) | skip
    all_goals
      rename_i ds
      have e : (if ds.length = n then q ds else none) = some bs := e
      by_cases hl : ds.length = n
      · rw [if_pos hl] at e
        first
          | (obtain ⟨t, vs, ev, ht, rs⟩ := r
             exact ⟨t, vs, ev, .inr (Z ▸ ht.sq), rs.length.trans hl, h.st N H ds vs bs σ Q rs e hQ⟩)
          | (obtain ⟨t, vs, ev, _, ht, rs⟩ := r
             exact ⟨t, vs, ev, .inl (.of ht), rs.length.trans hl, h.st N H ds vs bs σ Q rs e hQ⟩)
      · rw [if_neg hl] at e; cases e
  · cases d <;> first | (cases e; done) | skip
    all_goals
      rename_i ds
      have e : (if ds.length = n then q ds else none) = some bs := e
      by_cases hl : ds.length = n
      · rw [if_pos hl] at e; exact h.sl _ _ e _ hb
      · rw [if_neg hl] at e; cases e
def mUnp (fz : List Nat) (m : Ro → W Ex D) (p : D → Option (List (Nat × D))) : En → WS := fun ρ => W.bind (up ρ (m (see fz ρ))) fun d => W.got (p d) fun bs => W.ret (.nx, setE (if imms (bs.map (·.2)) = true then ρ else frz fz ρ) bs)
theorem RepB.imm {N N' : Addr → Prop} {H : Hp} {bs : List (Nat × D)} {ws : List (Nat × V)} (i : imms (bs.map (·.2)) = true) (h : RepB G N H bs ws) : RepB G N' H bs ws := by
  induction h with
  | nil => exact .nil
  | cons h t ih =>
    rw [List.map_cons] at i
    unfold imms at i
    exact .cons ⟨h.1, h.2.imm (and_l i)⟩ (ih (and_r i))
/-- items are stored that lie out -/
theorem OwnOk.setE {H0 H : Hp} {N0 N : Addr → Prop} {bs : List (Nat × D)} {ws : List (Nat × V)} (h : RepB G N H bs ws) : ∀ {S : Nat → Option Addr} {σ : Fb.St} {ρ : En}, (∀ a, N a → Out N0 H0 S a) → OwnOk G H0 N0 S σ H ρ → ρ.length = σ.length → ∃ S', OwnOk G H0 N0 S' (setV σ ws) H (Fb.setE ρ bs) := by
  induction h with
  | nil => exact fun _ o _ => ⟨_, o⟩
  | @cons b w bs ws h t ih =>
    intro S σ ρ hN o hl
    obtain ⟨i, d⟩ := b
    obtain ⟨j, v⟩ := w
    obtain ⟨e, r⟩ := h
    obtain rfl : i = j := e
    refine ih (σ := σ.set i (some v)) (ρ := ρ.set i (some (false, d))) (fun a na => ?_) (o.setS hl (r.sub hN)) (by rw [List.length_set, List.length_set]; exact hl)
    refine ⟨(hN a na).1, fun k z => ?_⟩
    rcases put_some z with ⟨_, y⟩ | ⟨_, y⟩
    · cases y
    · exact (hN a na).2 k y
theorem ds_unp {tg e : Expr} {m : Ro → W Ex D} {g : TG} {p : D → Option (List (Nat × D))} {sl : List Nat} {pos : Pos} (fz : List Nat) (hg : DG G X tg g p sl) (he : DE G X Wx e m) (hs : swapsWithSole [tg] e pos.line X.env = pure false := by rfl) (hw : swappedStores [tg] e X.env = pure none := by rfl)
    (h1 : (assignEach [tg] X.env).map (·.2) = [assign tg X.env] := by rfl) : DS G X Wx (.Assign [tg] e pos) (mUnp fz m p) := by
  refine DS.imp (fun ρ => (Mono.up (he.mono _)).bind fun d => got_mono fun _ => W.Mono.ret) (ps_asg he.pe hg.pg hs hw h1) fun H0 N0 ρ σ H D' r q => ?_
  obtain ⟨S, o⟩ := r.own
  refine he.inF r.same r.len o fz q fun d v H1 z s1 r1 => ?_
  obtain ⟨bs, hb, z⟩ := got_inv z
  refine hg.st _ H1 d v bs σ _ r1 hb fun ws rb => ?_
  by_cases hi : imms (bs.map (·.2)) = true
  · rw [if_pos hi] at z
    exact z _ _ ⟨r.same.trans s1, by rw [setE_len, setV_len]; exact r.len, OwnOk.setE (rb.imm (N' := Out N0 H0 S) hi) (fun _ n => n) (o.same s1) r.len⟩
  · rw [if_neg hi] at z
    refine z _ _ ⟨r.same.trans s1, by rw [setE_len, setV_len, frz_len]; exact r.len, OwnOk.setE rb (fun c hc => ?_) ((o.frz fz).same s1) (frz_len.trans r.len)⟩
    rcases hc with hc | hc
    · exact hc
    · exact ⟨.inr (r.same.free hc), fun j w => (o.new j c (cut_some w).1).2 hc⟩
end
end Fb
end

section
set_option Elab.async false
set_option linter.all false
set_option maxRecDepth 100000
set_option maxHeartbeats 4000000
/-! Own classes: properties, methods, new instances. -/
namespace Fb
open PySem PySem.Spec PyProof.Rows L2
def asIns (c : Str) : D → Option (List (Str × D))
  | .ins c' fs => if c' = c then some fs else none
  | _ => none
theorem asIns_inv {c : Str} {d : D} {fs : List (Str × D)} (h : asIns c d = some fs) : d = .ins c fs := by
  cases d <;> first | (cases h; done) | skip
  rename_i c' fs'
  have h : (if c' = c then some fs' else none) = some fs := h
  by_cases e : c' = c
  · rw [if_pos e] at h; cases h; rw [e]
  · rw [if_neg e] at h; cases h
theorem RepF.lookN {G : Wd} {N : Addr → Prop} {H : Hp} {f : Str} : ∀ {fs : List (Str × D)} {gs : List (Str × V)}, RepF G N H fs gs → fs.lookup f = none → gs.lookup f = none
  | [], _, h, e => by rw [show _ = [] from h]; rfl
  | (k, d') :: r, _, ⟨w, ws, ew, rd, rs⟩, e => by
    subst ew
    rw [List.lookup_cons] at e ⊢
    cases hb : f == k with
    | true => rw [hb] at e; cases e
    | false => rw [hb] at e; exact RepF.lookN rs e
theorem cx_never {P : Program} {w : World} {outer : List Env} {H : Hp} {s : Shared} {u : Value} {s' : Shared} (h : L2.CX P w outer H s (fun _ _ _ => False) u s') : False := by
  obtain ⟨_, _, _, _, _, _, _, _, _, _, _, _, h⟩ := h
  exact h
section
variable {P : Program} {w : World} {G : Wd} {base : Heap} {k j : Nat} {X : Cx} {Wx : WX}
/-! ### properties -/
def mProp (c : Str) (sem : List D → Rt) (m : Ro → W Ex D) : Ro → W Ex (Bool × D) := fun ρ => W.bind (m ρ) fun d => W.got (asIns c d) fun _ => W.calm (sem [d])
theorem dr_prop {e : Expr} {f c : Str} {C p g : Addr} {fd : FuncData} {ps : List Str} {sem : List D → Rt} {m : Ro → W Ex D} {pos : Pos} (Z : Cz P w G base k X Wx) (T : ClsD G c C) (hp : PropOf G.K C f p g) (F : FnD P w G base j g fd ps sem) (hj : j + 1 ≤ k) (hb : Binds G.K fd ps []) (hps : ps.length = 1)
    (he : DE G X Wx e m) (hab : attributeBase e f X.env (eval e X.env) = eval e X.env := by rfl) : DR G X Wx (.Attribute e f pos) (mProp c sem m) := by
  obtain ⟨rfl, rfl, hK, hmg, rfl, hr, hg, tk⟩ := Z
  refine ⟨⟨fun pins s σ H Q I ⟨N, ρ, rr, q⟩ => ?_⟩, fun ρ => (he.mono ρ).bind fun d => got_mono fun _ => (F.mono _).calm⟩
  refine attr_of hab (thn (he.pe.run pins s σ H (fun x H1 => ∃ d a dx gs fs, x = .ref a ∧ d = .ins c fs ∧ H1 a = some (.ins C dx gs) ∧ Rep G (Fr N H) H1 d x ∧ Same G H H1 ∧ sem [d] (PoR G N H Q) (fun _ => False)) I ⟨N, ρ, rr, (he.mono ρ).run (fun d z v H1 s1 r1 => ?_) (fun x z => z) q⟩) fun u s1 ⟨x, H1, I1, rx, d, a, dx, gs, fs, ex, ed, ea, r1, s1', z⟩ => ?_)
  · obtain ⟨fs, hd, z⟩ := got_inv z
    have hd' := asIns_inv hd
    obtain ⟨a, C', dx, gs, ev, hm, ha, rf⟩ := (show Rep G (Fr N H) H1 (.ins c fs) v from hd' ▸ r1)
    rw [T.mg] at hm
    cases hm
    exact ⟨d, a, dx, gs, fs, ev, hd', ha, r1, s1, z⟩
  · subst ex
    obtain rfl : u = Value.ref a := rx
    obtain ⟨mA, O, _, _, _, _⟩ := ins_get I1.hok ea
    obtain ⟨od, J, _⟩ := O.look
    obtain ⟨rest, hrec⟩ := hp.rec_
    have I2 := I1.tok (s1.toks + 1)
    have cl : Cls X.K C := hK ▸ T.cl
    have hc : (PySem.W.clsIn X.K C).isSome = true := by
      obtain ⟨cd, hc, _⟩ := PySem.W.any_some cl.hd
      rw [hc]
      rfl
    refine PySem.W.get_bind I1.kIn J (PySem.W.plainGet_of (cl.get f)).1 (PySem.W.findObj_data hc (hK ▸ hp.at_) (hK ▸ hp.get) (hK ▸ hp.tak)) (PySem.W.plainGet_of (cl.get f)).2 (wpAny_call (PySem.W.prop_get (s := { s1 with toks := s1.toks + 1 }) I1.kIn (hK ▸ hrec) ?_))
    have e0 : Env0 X.prog X.w G.K G.mg X.base X.A.in1 X.stack { s1 with toks := s1.toks + 1 } H1 := by rw [← hK, ← hmg]; exact I2.env0.in1
    have hl : ([Value.ref a] ++ []).length = ps.length := hps.symm
    have kin : G.K.In ({ s1 with toks := s1.toks + 1 } : Shared).heap := hK ▸ I2.kIn
    refine codeAny_mono (F.run X.A.in1 X.stack _ H1 ⟨[.ref a], []⟩ [.ref a] [.ref a] [d] (Fr N H) Q (fun _ _ _ => False) ((hr.mono hj).in1) hg e0 (s1'.tab rr.tab) (hb _ [.ref a] kin hl) (.cons rfl .nil) (.one r1) hps.symm ((F.mono _).run (fun _ y => y.step s1') (fun _ z => z.elim) z)) fun r s' hq => ?_
    cases r with
    | error er => exact False.elim (cx_never hq)
    | ok fl =>
      cases fl with
      | ret u =>
        obtain ⟨v, H', I3, rv, q3⟩ := I2.after hq
        show wpAny _ _ (handedOut u) _ _ _
        rw [PySem.W.handedOut_of (handed_of rv)]
        exact wpAny_pure ⟨v, H', I3, rv, q3⟩
      | next => exact False.elim hq
      | brk => exact False.elim hq
      | cont => exact False.elim hq
/-! ### methods -/
def mMeth (c : Str) (mn : Str) (n : Nat) (sem : List D → Rt) (dds : List D) (m : Ro → W Ex D) (a : Ro → W Ex (List D)) : Ro → W Ex (Bool × D) := fun ρ => W.bind (m ρ) fun d => W.got (asIns c d) fun fs => if fs.lookup mn = none then W.bind (a ρ) fun ds => if (d :: (ds ++ dds)).length = n then sem (d :: (ds ++ dds)) else W.fail else W.fail
theorem mMeth_mono {c mn : Str} {n : Nat} {sem : List D → Rt} {dds : List D} {m : Ro → W Ex D} {a : Ro → W Ex (List D)} (hs : ∀ ds, W.Mono (sem ds)) (hm : ∀ ρ, W.Mono (m ρ)) (ha : ∀ ρ, W.Mono (a ρ)) (ρ : Ro) : W.Mono (mMeth c mn n sem dds m a ρ) :=
  (hm ρ).bind fun d => got_mono fun fs => ite_mono ((ha ρ).bind fun ds => ite_mono (hs _) W.Mono.fail) W.Mono.fail
/-- o.m(e, ..) -/
theorem dr_meth {o e : Expr} {es : List Expr} {mn c : Str} {C f : Addr} {fd : FuncData} {ps : List Str} {sem : List D → Rt} {m : Ro → W Ex D} {a : Ro → W Ex (List D)} {apos pos : Pos} {dvs : List V} {dus : List Value} {dds : List D} {pl : Sem Bool} (Z : Cz P w G base k X Wx) (T : ClsD G c C) (hm : Meth G.K C mn f) (F : FnD P w G base j f fd ps sem) (hj : j ≤ k)
    (hb : Binds G.K fd ps dus) (hd : Vals dvs dus) (hr : ∀ N H, Reps G N H dds dvs) (ho : DE G X Wx o m) (ha : DA G X Wx (e :: es) a) (hst : starEach (e :: es) X.env = (false, eval e X.env) :: starEach es X.env := by rfl) (hpl : (backTo pos (starEach es X.env)).any (·.1) = false := by rfl)
    (ht : eval (.Call (.Attribute o mn apos) (e :: es) [] pos) X.env = (do
      let ov ← eval o X.env
      standAt apos.atName
      let (f, first) ← holding [ov] (getMethod ov mn pl)
      callWith pos f first (backTo pos (starEach (e :: es) X.env)) (backToKw pos (keywordEach [] X.env))) := by rfl) : DR G X Wx (.Call (.Attribute o mn apos) (e :: es) [] pos) (mMeth c mn ps.length sem dds m a) := by
  have Z0 := Z
  obtain ⟨rfl, rfl, hK, hmg, rfl, hrm, hg, tk⟩ := Z
  refine ⟨⟨fun pins s σ H Q I ⟨N, ρ, rr, q⟩ => ?_⟩, mMeth_mono F.mono ho.mono ha.mono⟩
  refine PySem.W.methodCall_KW (pl := pl) (thn (ho.pe.run pins s σ H (fun x H1 => ∃ d a0 dx gs fs, x = .ref a0 ∧ d = .ins c fs ∧ H1 a0 = some (.ins C dx gs) ∧ gs.lookup mn = none ∧ Rep G (Fr N H) H1 d x ∧ Same G H H1 ∧ (W.bind (a ρ) fun ds => if (d :: (ds ++ dds)).length = ps.length then sem (d :: (ds ++ dds)) else W.fail) (PoR G N H Q) (PoX G N Wx H σ)) I ⟨N, ρ, rr, (ho.mono ρ).run (fun d z v H1 s1 r1 => ?_) (fun x z => z) q⟩) fun u s1 ⟨x, H1, I1, rx, d, a0, dx, gs, fs, ex, ed, ea, el, r1, s1', z⟩ => ?_) ht
  · obtain ⟨fs, hd', z⟩ := got_inv z
    have hd' := asIns_inv hd'
    obtain ⟨hl, z⟩ := ite_ret z
    obtain ⟨a0, C', dx, gs, ev, hmm, ha0, rf⟩ := (show Rep G (Fr N H) H1 (.ins c fs) v from hd' ▸ r1)
    rw [T.mg] at hmm
    cases hmm
    exact ⟨d, a0, dx, gs, fs, ev, hd', ha0, rf.lookN hl, r1, s1, z⟩
  · subst ex
    obtain rfl : u = Value.ref a0 := rx
    refine getmeth_ok I1 ea (hK ▸ T.cl) (hK ▸ hm) el ?_
    have go := ha.pa.run pos pins s1 σ H1 (fun vs H2 => ∃ ds, Reps G (Fr N H) H2 ds vs ∧ (d :: (ds ++ dds)).length = ps.length ∧ Same G H1 H2 ∧ sem (d :: (ds ++ dds)) (PoR G N H Q) (PoX G N Wx H σ)) I1 ⟨N, ρ, rr.same s1', (ha.mono ρ).run (fun ds z vs H2 s2 r2 => by
      by_cases hl : (d :: (ds ++ dds)).length = ps.length
      · exact ⟨ds, r2.sub fun _ y => y.step s1', hl, s2, by simpa only [if_pos hl] using z⟩
      · have z' : (W.fail : Rt) (PoR G N H Q) (PoX G N Wx H σ) := by simpa only [if_neg hl] using z
        exact z'.elim) (fun x z => z.step s1') z⟩
    refine PySem.W.callWith_K (first := [.ref a0]) (h₀ := X.base) I.ok.mod.kin (hK ▸ hm.kp) (thn go fun us s2 ⟨vs, H2, I2, r, q2⟩ => ⟨I2.kIn, ?_⟩) hst hpl
    obtain ⟨ds, r2, hl, s2', z⟩ := q2
    exact run_fnd (ds := d :: ds) (vs := .ref a0 :: vs) (us := .ref a0 :: us) Z0 F hj (hK ▸ hb) hd I2 (s2'.tab (s1'.tab rr.tab)) (.cons rfl r) (.cons (r1.same s2') (r2.app (hr _ _))) hl ((F.mono _).run (fun _ y => y.step (s1'.trans s2')) (fun _ y => y.step2 (s1'.trans s2')) z)
/-! ### new instances -/
structure SameB (G : Wd) (x : Addr) (H H' : Hp) : Prop where
  ext : ∀ a o, a ≠ x → H a = some o → (∀ ps, o ≠ .tbl ps) → H' a = some o
  fre : ∀ a, a ≠ x → H' a = none → H a = none
  tab : TabsG G H → TabsG G H'
theorem SameB.refl {G : Wd} {x : Addr} {H : Hp} : SameB G x H H := ⟨fun _ _ _ e _ => e, fun _ _ e => e, id⟩
theorem SameB.of {G : Wd} {x : Addr} {H H1 H2 : Hp} (s : Same G H H1) (t : SameB G x H1 H2) : SameB G x H H2 := ⟨fun a o n e k => t.ext a o n (s.at e k) k, fun a n e => s.free (t.fre a n e), fun z => t.tab (s.tab z)⟩
theorem SameB.same {G : Wd} {x : Addr} {H H1 H2 : Hp} (n : H x = none) (s : Same G H H1) (t : SameB G x H1 H2) : Same G H H2 := ⟨fun a o e k => t.ext a o (ne_of_none e n) (s.at e k) k, fun a e => by
  by_cases c : a = x
  · subst c; exact n
  · exact s.free (t.fre a c e), fun z => t.tab (s.tab z)⟩
def PoF (G : Wd) (N : Addr → Prop) (H : Hp) (Q : VK) (x C dx : Addr) (fs : List (Str × D)) : Prop := ∀ H' gs, SameB G x H H' → H' x = some (.ins C dx gs) → RepF G (Fr N H) H' fs gs → Q .non H'
abbrev If := W Ex (List (Str × D))
/-- the def at f, an __init__ of the class at C: the attributes that it stores -/
structure FnI (P : Program) (w : World) (G : Wd) (base : Heap) (k : Nat) (f : Addr) (fd : FuncData) (ps : List Str) (C : Addr) (sem : List D → If) : Prop where
  run : ∀ (A : Around) (outer : List Env) (s : Shared) (H : Hp) (args : Args) (us : List Value) (vs : List V) (ds : List D) (N : Addr → Prop) (x dx : Addr) (Q : VK) (E : XK), Room k A → A.guards = some [] → Env0 P w G.K G.mg base A outer s H → TabsG G H → H x = some (.ins C dx []) →
    BindsTo s fd args (ps.zip (.ref x :: us)) → Vals vs us → Reps G N H ds vs → vs.length + 1 = ps.length →
    sem ds (PoF G N H Q x C dx) (fun x => ∀ c dd H', Same G H H' → XRep G (Fr N H) H' x c dd → E c dd H') → codeAny (model P w) A (.call (.ref f) args) (CR (CX P w) outer P w H s Q E) s
  mono : ∀ ds, W.Mono (sem ds)
theorem make_guards {A : Around} {C : Addr} {us : List Value} {kw : List (Str × Value)} : (A.under (.builtin "type.__call__" ⟨.ref C :: us, kw⟩)).guards = A.guards := by
  first | rfl | simp [Around.under, Code.weight, Code.isCreation, Code.isGuard, Code.isCaller, Code.frames, Code.isFrame, guardIds]
theorem run_mk {pins : List (Addr × Obj)} {σ : Fb.St} {H : Hp} {s : Shared} {Q : VK} {us : List Value} {vs : List V} {ds dds : List D} {N : Addr → Prop} {dvs : List V} {dus : List Value} {C f : Addr} {c : Str} {fd : FuncData} {ps : List Str} {sem : List D → If} (Z : Cz P w G base k X Wx) (T : G.mg c = some (.ref C)) (M : Mk G.K C f) (F : FnI P w G base j f fd ps C sem) (hj : j + 1 ≤ k)
    (hb : Binds G.K fd ps dus) (hd : Vals dvs dus) (I : Inv X pins σ H s) (tb : TabsG G H) (r : Vals vs us) (rd : Reps G N H (ds ++ dds) (vs ++ dvs)) (hl : (ds ++ dds).length + 1 = ps.length) (h : sem (ds ++ dds) (fun fs => PoR G N H Q (false, .ins c fs)) (PoX G N Wx H σ)) :
    wpAny (model X.prog X.w) X.A (call (.ref C) us) (EP X pins σ Q) X.xe s := by
  obtain ⟨rfl, rfl, hK, hmg, rfl, hr, hg, tk⟩ := Z
  have nx : H (s.heap.objs.size + 1) = none := I.hok.fresh (Nat.le_succ _)
  have nd : H s.heap.objs.size = none := I.hok.fresh (Nat.le_refl _)
  have I2 := Inv.made (C := C) I
  have s1 : Same G H (upd (upd H s.heap.objs.size (.own (s.heap.objs.size + 1))) (s.heap.objs.size + 1) (.ins C s.heap.objs.size [])) := .of fun b o e => by
    rw [upd_ne (ne_of_none e nx), upd_ne (ne_of_none e nd)]; exact e
  have r2 : Vals (vs ++ dvs) (us ++ dus) := r.append hd
  have lv : (vs ++ dvs).length + 1 = ps.length := by rw [rd.length]; exact hl
  have lu : (Value.ref (s.heap.objs.size + 1) :: us ++ dus).length = ps.length := by
    have e := r2.length
    show (us ++ dus).length + 1 = _
    omega
  have e0 := I2.env0
  rw [hK, hmg] at e0
  have kin := I2.kIn
  rw [hK] at kin
  refine wpAny_call (make_map (f := f) I.kIn (hK ▸ M.makes) (hK ▸ M.init) (beq_iff_eq.mp (hK ▸ M.fn)) (codeAny_mono (F.run _ X.stack _ _ ⟨Value.ref (s.heap.objs.size + 1) :: us, []⟩ (us ++ dus) (vs ++ dvs) (ds ++ dds) N (s.heap.objs.size + 1) s.heap.objs.size (fun v H2 => v = .non ∧ Q (.ref (s.heap.objs.size + 1)) H2) (fun c dd H' => Wx c dd σ H')
    ((hr.mono hj).make C us []) (make_guards.trans hg) (e0.make C us []) (s1.tab tb) upd_same (hb _ (Value.ref (s.heap.objs.size + 1) :: us) kin lu) r2 (rd.same s1) lv ((F.mono _).run (fun fs y H' gs st hx rf => ⟨rfl, ?_⟩) (fun x y c dd H' s' x' => ?_) h)) fun r s' hq' => ?_))
  · refine y (.ref (s.heap.objs.size + 1)) H' (st.same nx s1) ⟨_, C, _, gs, rfl, T, hx, RepF.mono (fun _ n _ => n.step s1) (Le.refl H') rf⟩ fun z => nomatch z
  · exact y c dd H' (s1.trans s') (x'.mono fun _ z => z.step s1)
  · cases r with
    | error e => exact tk e s' (XE.of_call (E := fun c dd H' => Wx c dd σ H') I2 (fun cls d H' h => h) hq')
    | ok fl =>
      cases fl with
      | ret u =>
        obtain ⟨v, H', I3, rv, ev, q3⟩ := I2.after hq'
        subst ev
        exact ⟨rv, ⟨V.ref (s.heap.objs.size + 1), H', I3, rfl, q3⟩⟩
      | next => exact False.elim hq'
      | brk => exact False.elim hq'
      | cont => exact False.elim hq'
def mMake (c : Str) (n : Nat) (sem : List D → If) (dds : List D) (a : Ro → W Ex (List D)) : Ro → W Ex (Bool × D) := fun ρ => W.bind (a ρ) fun ds => if (ds ++ dds).length + 1 = n then W.bind (sem (ds ++ dds)) fun fs => W.ret (false, .ins c fs) else W.fail
theorem mMake_mono {c : Str} {n : Nat} {sem : List D → If} {dds : List D} {a : Ro → W Ex (List D)} (hs : ∀ ds, W.Mono (sem ds)) (ha : ∀ ρ, W.Mono (a ρ)) (ρ : Ro) : W.Mono (mMake c n sem dds a ρ) := (ha ρ).bind fun ds => ite_mono ((hs _).bind fun _ => W.Mono.ret) W.Mono.fail
/-- C(e, ..) -/
theorem dr_make {c : Str} {e : Expr} {es : List Expr} {C f : Addr} {fd : FuncData} {ps : List Str} {sem : List D → If} {a : Ro → W Ex (List D)} {p pos : Pos} {dvs : List V} {dus : List Value} {dds : List D} (Z : Cz P w G base k X Wx) (T : G.mg c = some (.ref C)) (M : Mk G.K C f) (F : FnI P w G base j f fd ps C sem) (hj : j + 1 ≤ k)
    (hb : Binds G.K fd ps dus) (hd : Vals dvs dus) (hrd : ∀ N H, Reps G N H dds dvs) (hg : Gl X c) (ha : DA G X Wx (e :: es) a) (hdb : (c == ("__debug__" : Str)) = false := by decide) (he : starEach (e :: es) X.env = (false, eval e X.env) :: starEach es X.env := by rfl) (hpl : (backTo pos (starEach es X.env)).any (·.1) = false := by rfl) :
    DR G X Wx (.Call (.Name c p) (e :: es) [] pos) (mMake c ps.length sem dds a) := by
  refine ⟨⟨fun pins s σ H Q I ⟨N, ρ, rr, q⟩ => ?_⟩, mMake_mono F.mono ha.mono⟩
  refine wpAny_Call_Name_kw (ld_glob I hg (Z.mg ▸ T) ?_ hdb)
  have go := ha.pa.run pos pins s σ H (fun vs H1 => ∃ ds, Reps G (Fr N H) H1 ds vs ∧ (ds ++ dds).length + 1 = ps.length ∧ Same G H H1 ∧ sem (ds ++ dds) (fun fs => PoR G N H Q (false, .ins c fs)) (PoX G N Wx H σ)) I ⟨N, ρ, rr, (ha.mono ρ).run (fun ds z vs H1 s1 r1 => by
    by_cases hl : (ds ++ dds).length + 1 = ps.length
    · have z' : (W.bind (sem (ds ++ dds)) fun fs => W.ret (false, D.ins c fs)) (PoR G N H Q) (PoX G N Wx H σ) := by simpa only [if_pos hl] using z
      exact ⟨ds, r1, hl, s1, z'⟩
    · have z' : (W.fail : Rt) (PoR G N H Q) (PoX G N Wx H σ) := by simpa only [if_neg hl] using z
      exact z'.elim) (fun x z => z) q⟩
  refine PySem.W.callWith_K (h₀ := X.base) I.ok.mod.kin (Z.K ▸ M.kp) (thn go fun us s1 ⟨vs, H1, I1, r, q1⟩ => ⟨I1.kIn, ?_⟩) he hpl
  obtain ⟨ds, r1, hl, s2, z⟩ := q1
  exact run_mk Z T M F hj hb hd I1 (s2.tab rr.tab) r (r1.app (hrd _ _)) hl ((F.mono _).run (fun _ y => PoR.step (h := y) s2) (fun _ y => y.step2 s2) z)
end
end Fb
end

section
set_option Elab.async false
set_option linter.all false
set_option maxRecDepth 100000
set_option maxHeartbeats 4000000
/-! __init__ of an own class: its stores come last. -/
namespace Fb
open PySem PySem.Spec PyProof.Rows L2
mutual
/-- no instance is in it -/
def noins : D → Bool
  | .tup xs => noinss xs
  | .lst xs => noinss xs
  | .dic kvs => noinsK kvs
  | .ins _ _ => false
  | .non => true
  | .bl _ => true
  | .int _ => true
  | .str _ => true
  | .box _ => true
  | .ty _ => true
  | .cls _ => true
  | .raw _ => true
  | .scr _ => true
  | .clo _ _ => false
def noinss : List D → Bool
  | [] => true
  | x :: xs => noins x && noinss xs
def noinsK : List (Key × D) → Bool
  | [] => true
  | (_, x) :: xs => noins x && noinsK xs
end
section
variable {G : Wd} {N : Addr → Prop} {H H' : Hp} {x C dx : Addr} {gs : List (Str × V)}
theorem ne_ins {a : Addr} {o : HO} (hx : H x = some (.ins C dx gs)) (h : H a = some o) (k : ∀ C dx gs, o ≠ .ins C dx gs) : a ≠ x := fun e => by rw [e, hx] at h; cases h; exact k _ _ _ rfl
theorem ScrAt.chI {K : PySem.W.Frag} {a : Addr} {ns : List Int} (hx : H x = some (.ins C dx gs)) (hs : ∀ a, a ≠ x → H' a = H a) (r : ScrAt K H a ns) : ScrAt K H' a ns := r.elim (fun ⟨o, e⟩ => .inl ⟨o, (hs a (ne_ins hx e fun _ _ _ y => nomatch y)).trans e⟩) .inr
mutual
theorem Rep.chI (hx : H x = some (.ins C dx gs)) (hs : ∀ a, a ≠ x → H' a = H a) : ∀ {d : D} {v : V}, noins d = true → Rep G N H d v → Rep G (fun a => N a ∧ a ≠ x) H' d v
  | .non, _, _, h => h
  | .bl _, _, _, h => h
  | .int _, _, _, h => h
  | .str _, _, _, h => h
  | .tup ds, _, i, ⟨a, vs, e, q, r⟩ => ⟨a, vs, e, q.elim (fun z => .inl ((hs a (ne_ins hx z fun _ _ _ y => nomatch y)).trans z)) .inr, Reps.chI hx hs (by simpa [noins] using i) r⟩
  | .lst ds, _, i, ⟨a, vs, e, n, q, r⟩ => ⟨a, vs, e, ⟨n, ne_ins hx q fun _ _ _ y => nomatch y⟩, (hs a (ne_ins hx q fun _ _ _ y => nomatch y)).trans q, Reps.chI hx hs (by simpa [noins] using i) r⟩
  | .dic kvs, _, i, ⟨a, ks, e, n, q, r⟩ => by
    have ne : a ≠ x := q.elim (fun z => ne_ins hx z fun _ _ _ y => nomatch y) fun ⟨o, z⟩ => ne_ins hx z fun _ _ _ y => nomatch y
    exact ⟨a, ks, e, ⟨n, ne⟩, q.elim (fun z => .inl ((hs a ne).trans z)) fun ⟨o, z⟩ => .inr ⟨o, (hs a ne).trans z⟩, RepK.chI hx hs (by simpa [noins] using i) r⟩
  | .ins c fs, _, i, _ => by simp [noins] at i
  | .box n, _, _, ⟨a, e, q⟩ => ⟨a, e, q.imp fun b _ z => (hs b (ne_ins hx z fun _ _ _ y => nomatch y)).trans z⟩
  | .ty _, _, _, h => h
  | .cls _, _, _, h => h
  | .raw _, _, _, h => h
  | .scr _, _, _, ⟨a, e, q⟩ => ⟨a, e, ScrAt.chI hx hs q⟩
  | .clo _ _, _, i, _ => by simp [noins] at i
theorem Reps.chI (hx : H x = some (.ins C dx gs)) (hs : ∀ a, a ≠ x → H' a = H a) : ∀ {ds : List D} {vs : List V}, noinss ds = true → Reps G N H ds vs → Reps G (fun a => N a ∧ a ≠ x) H' ds vs
  | [], _, _, h => h
  | _ :: _, _, i, ⟨w, ws, e, r, rs⟩ => ⟨w, ws, e, Rep.chI hx hs (and_l (by simpa [noinss] using i)) r, Reps.chI hx hs (and_r (by simpa [noinss] using i)) rs⟩
theorem RepK.chI (hx : H x = some (.ins C dx gs)) (hs : ∀ a, a ≠ x → H' a = H a) : ∀ {ds : List (Key × D)} {vs : List (Key × V)}, noinsK ds = true → RepK G N H ds vs → RepK G (fun a => N a ∧ a ≠ x) H' ds vs
  | [], _, _, h => h
  | (_, _) :: _, _, i, ⟨w, ws, e, r, rs⟩ => ⟨w, ws, e, Rep.chI hx hs (and_l (by simpa [noinsK] using i)) r, RepK.chI hx hs (and_r (by simpa [noinsK] using i)) rs⟩
end
def noinsF : List (Str × D) → Bool
  | [] => true
  | (_, x) :: xs => noins x && noinsF xs
theorem RepF.chI (hx : H x = some (.ins C dx gs)) (hs : ∀ a, a ≠ x → H' a = H a) : ∀ {ds : List (Str × D)} {vs : List (Str × V)}, noinsF ds = true → RepF G N H ds vs → RepF G (fun a => N a ∧ a ≠ x) H' ds vs
  | [], _, _, h => h
  | (_, _) :: _, _, i, ⟨w, ws, e, r, rs⟩ => ⟨w, ws, e, Rep.chI hx hs (and_l (by simpa [noinsF] using i)) r, RepF.chI hx hs (and_r (by simpa [noinsF] using i)) rs⟩
def putFD (f : Str) (v : D) : List (Str × D) → List (Str × D)
  | [] => [(f, v)]
  | (g, x) :: r => if g = f then (g, v) :: r else (g, x) :: putFD f v r
theorem RepF.put {f : Str} {d : D} {v : V} (r : Rep G N H d v) : ∀ {fs : List (Str × D)} {gs : List (Str × V)}, RepF G N H fs gs → RepF G N H (putFD f d fs) (putF f v gs)
  | [], _, h => by rw [show _ = [] from h]; exact ⟨v, [], rfl, r, rfl⟩
  | (g, x) :: rest, _, ⟨w, ws, e, r1, rs⟩ => by
    subst e
    unfold putFD putF
    by_cases h : g = f
    · rw [if_pos h, if_pos h]; exact ⟨v, ws, rfl, r, rs⟩
    · rw [if_neg h, if_neg h]; exact ⟨w, _, rfl, r1, RepF.put r rs⟩
theorem noinsF_put {f : Str} {d : D} (h : noins d = true) : ∀ {fs : List (Str × D)}, noinsF fs = true → noinsF (putFD f d fs) = true
  | [], _ => by simp [putFD, noinsF, h]
  | (g, x) :: rest, i => by
    unfold putFD
    have i1 := and_l (show (noins x && noinsF rest) = true by simpa [noinsF] using i)
    have i2 := and_r (show (noins x && noinsF rest) = true by simpa [noinsF] using i)
    by_cases e : g = f
    · rw [if_pos e]; simp [noinsF, h, i2]
    · rw [if_neg e]; simp [noinsF, i1, noinsF_put h i2]
theorem RepF.length : ∀ {fs : List (Str × D)} {gs : List (Str × V)}, RepF G N H fs gs → gs.length = fs.length
  | [], _, h => by rw [show _ = [] from h]; rfl
  | (_, _) :: fs, _, ⟨w, ws, e, _, rs⟩ => by rw [e, List.length_cons, List.length_cons, RepF.length rs]
end
/-- the slots without instances -/
def roI (ρ : Ro) : Ro := ρ.map fun o => match o with
  | some d => if noins d = true then some d else none
  | none => none
theorem roI_at {ρ : Ro} {i : Nat} {d : D} (h : (roI ρ)[i]? = some (some d)) : ρ[i]? = some (some d) ∧ noins d = true := by
  unfold roI at h
  rw [List.getElem?_map] at h
  rcases e : ρ[i]? with _ | _ | d'
  · rw [e] at h; cases h
  · rw [e] at h; cases h
  · rw [e] at h
    have h : some (if noins d' = true then some d' else none) = some (some d) := h
    by_cases hn : noins d' = true
    · rw [if_pos hn] at h; cases h; exact ⟨rfl, hn⟩
    · rw [if_neg hn] at h; cases h
section
variable {G : Wd} {X : Cx} {Wx : WX}
/-- the stores of a new instance's attributes -/
def fldN (ρ : Ro) : List (Str × (Ro → W Ex D)) → List (Str × D) → If
  | [], acc => W.ret acc
  | (f, m) :: r, acc => W.bind (W.calm (m ρ)) fun d => if noins d = true ∧ acc.length < 1000 then fldN ρ r (putFD f d acc) else W.fail
theorem fldN_mono {ρ : Ro} : ∀ {ms : List (Str × (Ro → W Ex D))} {acc : List (Str × D)}, (∀ m ∈ ms, ∀ ρ, W.Mono (m.2 ρ)) → W.Mono (fldN ρ ms acc)
  | [], _, _ => W.Mono.ret
  | (f, m) :: r, acc, h => (h _ List.mem_cons_self _).calm.bind fun d => ite_mono (fldN_mono fun m' hm => h m' (List.mem_cons_of_mem _ hm)) W.Mono.fail
def tSf (G : Wd) (C : Addr) (ms : List (Str × (Ro → W Ex D))) : TS := fun D' σ H => ∃ (N : Addr → Prop) (ρ : Ro) (x dx : Addr) (acc : List (Str × D)) (gs : List (Str × V)), σ[0]? = some (some (.ref x)) ∧ H x = some (.ins C dx gs) ∧ RepF G N H acc gs ∧ noinsF acc = true ∧ ERel G N H σ ρ ∧ (∀ (i : Nat) (d : D), ρ[i]? = some (some d) → noins d = true) ∧
  fldN ρ ms acc (fun fs => ∀ H' gs', SameB G x H H' → H' x = some (.ins C dx gs') → RepF G (Fr N H) H' fs gs' → D'.nx σ H') (fun _ => False)
structure DSf (G : Wd) (X : Cx) (C : Addr) (sts : List Stmt) (ms : List (Str × (Ro → W Ex D))) : Prop where
  ps : PSs X sts (tSf G C ms)
  mono : ∀ m ∈ ms, ∀ ρ, W.Mono (m.2 ρ)
theorem dsf_nil {C : Addr} : DSf G X C [] [] := by
  refine ⟨⟨fun pins s σ H D' I q => pss_nil.run pins s σ H D' I ?_⟩, fun m hm => by cases hm⟩
  obtain ⟨N, ρ, x, dx, acc, gs, h0, hx, rf, hn, rr, hr, q⟩ := q
  exact q H gs .refl hx (RepF.mono (fun _ n _ => .inl n) (Le.refl H) rf)
theorem dsf_cons {C : Addr} {c f : Str} {e : Expr} {sts : List Stmt} {m : Ro → W Ex D} {ms : List (Str × (Ro → W Ex D))} {p p' pos : Pos} (Z : X.K = G.K) (T : ClsD G c C) (nf : NoAttr G.K C f) (hv : PE X (.Name "self" p) (tVar 0)) (he : DE G X WxF e m) (hs : DSf G X C sts ms) (hsw : swapsWith e (some (.Attribute (.Name "self" p) f p')) pos.line X.env = pure false := by rfl) :
    DSf G X C (.Assign [.Attribute (.Name "self" p) f p'] e pos :: sts) ((f, m) :: ms) := by
  refine ⟨⟨fun pins s σ H D' I q => (pss_cons (ps_fld hv he.pe hsw) hs.ps).run pins s σ H D' I ?_⟩, fun m' hm => ?_⟩
  · obtain ⟨N, ρ, x, dx, acc, gs, h0, hx, rf, hn, rr, hr, q⟩ := q
    refine he.go rr q (fun x z => z.elim) fun d v H1 z s1 r1 rr1 => ?_
    obtain ⟨⟨hd, hl⟩, z⟩ := ite_ret z
    have hx1 : H1 x = some (.ins C dx gs) := s1.at hx
    refine ⟨.ref x, h0, x, C, dx, gs, rfl, hx1, Z ▸ T.cl, Z ▸ nf, by rw [rf.length]; exact hl, ?_⟩
    have hch : ∀ a, a ≠ x → upd H1 x (.ins C dx (putF f v gs)) a = H1 a := fun a h => upd_ne h
    have rd : Rep G (fun a => Fr N H a ∧ a ≠ x) (upd H1 x (.ins C dx (putF f v gs))) d v := Rep.chI hx1 hch hd r1
    have ra : RepF G (fun a => Fr N H a ∧ a ≠ x) (upd H1 x (.ins C dx (putF f v gs))) acc gs := RepF.chI hx1 hch hn (RepF.mono (fun _ n _ => .inl n) (Le.of s1) rf)
    refine ⟨fun a => Fr N H a ∧ a ≠ x, ρ, x, dx, putFD f d acc, putF f v gs, h0, upd_same, RepF.put rd ra, noinsF_put hd hn, ⟨tabs_upd rr1.tab (.inr ⟨_, hx1, ins_no⟩), fun i d' e' => ?_⟩, hr, (fldN_mono hs.mono).run (fun fs y H' gs' st hx' rf' => ?_) (fun _ y => y) z⟩
    · obtain ⟨v', e1, r2⟩ := rr1.get i d' e'
      exact ⟨v', e1, Rep.chI hx1 hch (hr i d' e') (r2.sub fun _ n => .inl n)⟩
    · refine y H' gs' ⟨fun a o hne ha k => st.ext a o hne (by rw [upd_ne hne]; exact s1.at ha k) k, fun a hne ha => by
          have := st.fre a hne ha
          rw [upd_ne hne] at this
          exact s1.free this, fun t => st.tab (tabs_upd (s1.tab t) (.inr ⟨_, hx1, ins_no⟩))⟩ hx' (RepF.mono (fun a n _ => ?_) (Le.refl H') rf')
      · rcases n with n | n
        · exact n.1
        · by_cases hax : a = x
          · subst hax; rw [upd_same] at n; cases n
          · rw [upd_ne hax] at n; exact .inr (s1.free n)
  · rcases List.mem_cons.mp hm with e | hm
    · rw [e]; exact he.mono
    · exact hs.mono m' hm
/-! ### the statements ahead of them -/
def rawAt : Option (Option (Bool × D)) → Option Addr
  | some (some (_, .raw a)) => some a
  | _ => none
abbrev IW := En → W (Ex × En) (List (Str × D))
def tSi (G : Wd) (Wx : WX) (C : Addr) (m : IW) : TS := fun D' σ H => ∃ H0 N0 ρ x dx, SRel G H0 N0 σ H ρ ∧ H0 x = some (.ins C dx []) ∧ rawAt ρ[0]? = some x ∧
  m ρ (fun fs => ∀ σ' H' gs, SameB G x H0 H' → H' x = some (.ins C dx gs) → RepF G (Fr N0 H0) H' fs gs → D'.nx σ' H') (PoXS G H0 N0 Wx)
structure DSi (G : Wd) (X : Cx) (Wx : WX) (C : Addr) (sts : List Stmt) (m : IW) : Prop where
  ps : PSs X sts (tSi G Wx C m)
  mono : ∀ ρ, W.Mono (m ρ)
def mFlds (ms : List (Str × (Ro → W Ex D))) : IW := fun ρ Q E => fldN (roI (ro ρ)) ms [] Q (fun _ => False)
theorem rawAt_inv {ρ : En} {x : Addr} (h : rawAt ρ[0]? = some x) : ∃ b, ρ[0]? = some (some (b, .raw x)) := by
  unfold rawAt at h
  split at h
  · rename_i e; cases h; exact ⟨_, e⟩
  · cases h
theorem SRel.self {H0 H : Hp} {N0 : Addr → Prop} {σ : Fb.St} {ρ : En} {x : Addr} (r : SRel G H0 N0 σ H ρ) (h : rawAt ρ[0]? = some x) : σ[0]? = some (some (.ref x)) := by
  obtain ⟨b, e⟩ := rawAt_inv h
  obtain ⟨S, o⟩ := r.own
  cases b with
  | false =>
    obtain ⟨v, e1, r1⟩ := o.shr 0 _ e
    rw [e1, show v = .ref x from r1]
  | true =>
    obtain ⟨a, e1, _, r1⟩ := o.own 0 _ e
    exact r1.elim
theorem dsi_flds {C : Addr} {sts : List Stmt} {ms : List (Str × (Ro → W Ex D))} (h : DSf G X C sts ms) : DSi G X Wx C sts (mFlds ms) := by
  refine ⟨⟨fun pins s σ H D' I q => h.ps.run pins s σ H D' I ?_⟩, fun ρ => ⟨fun f _ q => (fldN_mono h.mono).run f (fun _ z => z) q⟩⟩
  obtain ⟨H0, N0, ρ, x, dx, r, hx0, h0, q⟩ := q
  refine ⟨Fr N0 H0, roI (ro ρ), x, dx, [], [], r.self h0, r.same.at hx0, rfl, rfl, ⟨r.same.tb, fun i d e => r.ro.get i d (roI_at e).1⟩, fun i d e => (roI_at e).2, (fldN_mono h.mono).run (fun fs y H' gs st hx rf => ?_) (fun _ z => z) q⟩
  exact y σ H' gs (.of r.same.toSame st) hx (RepF.mono (fun a n _ => n.elim id fun z => .inr (r.same.free z)) (Le.refl H') rf)
def mIcons (m : En → WS) (n : IW) : IW := fun ρ => W.bind (m ρ) fun p => match p.1 with
  | .nx => if rawAt p.2[0]? = rawAt ρ[0]? then n p.2 else W.fail
  | _ => W.fail
theorem mIcons_mono {m : En → WS} {n : IW} (hm : ∀ ρ, W.Mono (m ρ)) (hn : ∀ ρ, W.Mono (n ρ)) (ρ : En) : W.Mono (mIcons m n ρ) := (hm ρ).bind fun p => by
  obtain ⟨f, ρ'⟩ := p
  cases f with
  | nx => exact ite_mono (hn _) W.Mono.fail
  | _ => exact W.Mono.fail
theorem dsi_cons {C : Addr} {st : Stmt} {sts : List Stmt} {m : En → WS} {n : IW} (h : DS G X Wx st m) (hs : DSi G X Wx C sts n) : DSi G X Wx C (st :: sts) (mIcons m n) := by
  refine ⟨⟨fun pins s σ H D' I q => (pss_cons h.ps hs.ps).run pins s σ H D' I ?_⟩, mIcons_mono h.mono hs.mono⟩
  obtain ⟨H0, N0, ρ, x, dx, r, hx0, h0, q⟩ := q
  refine ⟨H0, N0, ρ, r, (h.mono ρ).run (fun p z => ?_) (fun _ z => z) q⟩
  obtain ⟨f, ρ'⟩ := p
  cases f with
  | nx =>
    obtain ⟨e, z⟩ := ite_ret z
    exact fun σ' H' r' => ⟨H0, N0, ρ', x, dx, r', hx0, e.trans h0, z⟩
  | bk => exact z.elim
  | ct => exact z.elim
  | rt r => exact z.elim
end
/-- the slots at the start of an __init__ -/
def initI (n : Nat) (x : Addr) (ds : List D) : En := initEn n (.raw x :: ds)
def runIni (n : Nat) (b : IW) : List D → If := fun ds Q E => ∀ x, b (initI n x ds) Q (fun p => E p.1)
theorem runIni_mono {n : Nat} {b : IW} (h : ∀ ρ, W.Mono (b ρ)) (ds : List D) : W.Mono (runIni n b ds) := ⟨fun hq he q x => (h _).run (fun p z => hq _ z) (fun p z => he _ z) (q x)⟩
theorem fni_of {P : Program} {w : World} {G : Wd} {base : Heap} {k : Nat} {f C : Addr} {x qual : Str} {st : Stmt} {dV kV doc pm cdv ct oc : Value} {an od : Option Addr} {osl : Array (Option Value)} {Ns ps : List Str} {b : IW}
    (lk : G.K.lookup f = some ⟨oc, od, .func (PySem.W.fnOf x qual (defArgs st) (defBody st) (defScope st) dV kV doc pm an cdv ct), osl⟩) (hcd : PySem.W.codeIn G.K cdv qual = true) (S : FnScope Ns ps (defScope st))
    (hm : ∀ ρ, W.Mono (b ρ))
    (body : ∀ (A : Around) (outer : List Env) (s : Shared) (H : Hp) (E : XK), Cz P w G base k (cxD P w G base Ns qual (defScope st) f cdv A outer s H E) (wxD E) →
      DSi G (cxD P w G base Ns qual (defScope st) f cdv A outer s H E) (wxD E) C (defBody st) b) :
    FnI P w G base (k + 1) f (PySem.W.fnOf x qual (defArgs st) (defBody st) (defScope st) dV kV doc pm an cdv ct) ps C (runIni Ns.length b) := by
  refine ⟨fun A outer s H args us vs ds N y dx Q E hr hg e0 tb hy hb rv rd hl q => ?_, runIni_mono hm⟩
  refine LamX.run_ofS (vs := .ref y :: vs) lk hcd S hr e0 hb (.cons rfl rv) hl fun hr' => ?_
  have z : Cz P w G base k (cxD P w G base Ns qual (defScope st) f cdv A outer s H E) (wxD E) := ⟨rfl, rfl, rfl, rfl, rfl, hr', hg, takes_of rfl rfl rfl rfl⟩
  have d := body A outer s H E z
  have hlen : ps.length ≤ Ns.length := by
    have := congrArg List.length S.pre
    rw [List.length_take] at this
    omega
  have rd' : Reps G N H (.raw y :: ds) (.ref y :: vs) := .cons rfl rd
  have h1 : 1 ≤ Ns.length := by omega
  refine ⟨_, d.ps, H, N, initI Ns.length y ds, y, dx, .start tb rd' (by show vs.length + 1 ≤ _; omega), hy, ?_, (d.mono _).run (fun fs z σ' H' gs st hx rf => z H' gs st hx rf) (fun p z => ?_) (q y)⟩
  · unfold initI initEn
    rfl
  · exact fun σ c dd H' r' x' => z c dd H' r'.same x'
end Fb
end

section
set_option Elab.async false
set_option linter.all false
set_option maxRecDepth 100000
set_option maxHeartbeats 4000000
/-! enumerate over a tuple or a list. -/
namespace Fb
open PySem PySem.Spec PyProof.Rows L2
section
open PySem.AutoSeq1 (wpAny_loadPart')
theorem meets_enumT (l : Addr) (items : Array Value) (n : Nat) (dct : Option Addr) (sl : Array (Option Value)) :
    Meets (Builtin.«enumerate.__new__» ⟨[.type "enumerate", .ref l], []⟩) (fun _ R s => s.heap.get? l = some { cls := .type "tuple", dict := dct, data := .seq items n, slots := sl } ∧
      R (.ok (.ret (.ref (s.heap.push { cls := .type "tuple_iterator", data := .fields #[.ref l, .int 0 0] }).objs.size)))
        { s with heap := (s.heap.push { cls := .type "tuple_iterator", data := .fields #[.ref l, .int 0 0] }).push { cls := .type "enumerate", data := .fields #[.none, .bool false, .ref s.heap.objs.size, rawInt 0, .none, .none] } }) :=
  .of_wp fun prog w A R s h => by
    obtain ⟨hp, g, d, tk, os⟩ := s
    obtain ⟨hl, h⟩ := h
    have hsub := sub_enumerate
    have hL : Heap.IsTuple (Shared.heap ⟨hp, g, d, tk, os⟩) l items := ⟨_, hl, rfl, n, rfl⟩
    wp_walk using wpAny_loadPart' hl
    refine wpAny_stack_any fun st => wpAny_pure ?_
    split
    · rename_i c _ _ _ _ _
      cases (c == Value.type "enumerate")
      · wp_walk using wpAny_loadPart' hl, wpAny_pyIter_tuple hL
        exact ⟨_, rfl, h⟩
      · wp_walk using wpAny_loadPart' hl, wpAny_pyIter_tuple hL
        exact ⟨_, rfl, h⟩
    · wp_walk using wpAny_loadPart' hl, wpAny_pyIter_tuple hL
      exact ⟨_, rfl, h⟩
end
section
variable {prog : Program} {w : World} {A : Around} {E : Value → Shared → Prop} {s : Shared}
theorem call_enumT {l : Addr} {items : Array Value} {Q : Value → Shared → Prop} (hL : s.heap.IsTuple l items)
    (h : ∀ h', IsEnum h' (s.heap.objs.size + 1) s.heap.objs.size 0 .none → h'.IsTupleIter s.heap.objs.size l 0 → (∀ b o, s.heap.get? b = some o → h'.get? b = some o) → Q (.ref (s.heap.objs.size + 1)) { s with heap := h' }) :
    wpAny (model prog w) A (call (.type "enumerate") [.ref l]) Q E s := by
  obtain ⟨⟨c, dct, dt, sl⟩, hl, hc, n, hd⟩ := hL
  replace hc : c = .type "tuple" := hc
  replace hd : dt = .seq items n := hd
  subst hc hd
  refine callType_new F.called_enumerate (by decide) (F.typeCall_enumerate_1 _) (F.newCall_enumerate_1 _) (fun obj => F.args_object_init_2 obj _) F.entry_enumerate_new (meets_enumT l items n dct sl) ⟨hl, ?_⟩
  have hz : (s.heap.push { cls := .type "tuple_iterator", data := .fields #[.ref l, .int 0 0] }).objs.size = s.heap.objs.size + 1 := Heap.size_push ..
  show _ ∧ _
  rw [hz]
  have he : IsEnum ((s.heap.push { cls := .type "tuple_iterator", data := .fields #[.ref l, .int 0 0] }).push
      { cls := .type "enumerate", data := .fields #[.none, .bool false, .ref s.heap.objs.size, rawInt 0, .none, .none] }) (s.heap.objs.size + 1) s.heap.objs.size 0 .none := by
    have := Heap.get?_push_size (s.heap.push { cls := .type "tuple_iterator", data := .fields #[.ref l, .int 0 0] })
      (o := { cls := .type "enumerate", data := .fields #[.none, .bool false, .ref s.heap.objs.size, rawInt 0, .none, .none] }) rfl
    rw [hz] at this; exact this
  exact ⟨⟨_, he, rfl⟩, h _ he ⟨_, Heap.get?_push_of_some _ (Heap.get?_push_size _ rfl), rfl, rfl⟩ fun b o x => Heap.get?_push_of_some _ (Heap.get?_push_of_some _ x)⟩
end
theorem drawsT {prog : Program} {w : World} {A : Around} (hh : A.handled = none) (it l : Addr) (hne : l ≠ it) (items : Array Value) :
    Draws prog w A it [it, l] items.size (fun i v => items[i]? = some v) (fun i h => h.IsTupleIter it l i ∧ h.IsTuple l items) where
  live := fun _ _ st => let ⟨o, ho, _⟩ := st.1; ⟨o, ho⟩
  frame := fun _ _ _ st hk => ⟨st.1.at fun o e => hk it (by simp) o e, let ⟨o, e, r⟩ := st.2; ⟨o, hk l (by simp) o e, r⟩⟩
  item := fun i s Q E hi st hQ => by
    refine RZ.nextOf_tuple_item st.1 st.2 (x := items[i]) (by simp [hi]) fun h' hit' hs' => ?_
    exact hQ _ h' s.toks (by simp [hi]) ⟨hit', let ⟨o, e, r⟩ := st.2; ⟨o, (hs'.2 l hne).trans e, r⟩⟩ hs'
  done := fun s Q E st hE => RZ.nextOf_tuple_end hh st.1 st.2 (by simp) hE
theorem pyNext_enumT_end {prog : Program} {w : World} {A : Around} {E : Value → Shared → Prop} {s : Shared} {e it l : Addr} {i : Nat} {items : Array Value} {old : Value} {c : Int} {Q : Option Value → Shared → Prop} (hh : A.handled = none)
    (he : IsEnum s.heap e it c old) (hit : s.heap.IsTupleIter it l i) (hl : s.heap.IsTuple l items) (hx : items[i]? = none)
    (hQ : ∀ h', Heap.ExtBut it s.heap h' → Q none { s with heap := h' }) : wpAny (model prog w) A (pyNext (.ref e)) Q E s := by
  have hT : s.TypeIs (.ref e) "enumerate" := ⟨_, he, rfl⟩
  unfold pyNext
  refine wpAny_bind (wpAny_attempt (wpAny_callSpecial?_slot (name := Str.ofString "__next__") hT F.slot_enumerate_next
    (wpAny_call_entry F.slot_enumerate_next hT F.entry_enumerate_next ?_ (F.args_enumerate_next_1 _))))
  show wpAny _ _ (field (.ref e) 2 >>= _) _ _ _
  refine wpAny_bind (wpAny_field he rfl (x := .ref it) rfl ?_)
  refine wpAny_bind (RZ.nextOf_tuple_end hh hit hl hx fun h' x he' hx' => ?_)
  obtain ⟨o, ho, hc⟩ := hx'
  refine wpAny_bind (wpAny_isInstance (T := "StopIteration") (b := true) ⟨o, ho, hc⟩ isSubtype_stop ?_)
  exact wpAny_pure (hQ _ he')
def IteT (K : PySem.W.Frag) (a : Addr) : It :=
  ⟨fun i H => ∃ (xs : List V) (x : V), SqT K H a xs ∧ xs[i]? = some x, fun i H v H' => ∃ T x, v = .ref T ∧ H T = none ∧ H' = upd H T (.tup [.int (i : Nat), x]) ∧ ∀ xs, SqT K H a xs → xs[i]? = some x, fun i H => ∃ xs : List V, SqT K H a xs ∧ xs.length ≤ i⟩
theorem turn_enumT {P : Program} {w : World} {K : PySem.W.Frag} {elts : List Expr} {kk : Nat} {tpos : Pos} (a e it : Addr) :
    Turn P w K (.Tuple elts kk tpos) (IteT K a) [e, it] e (fun i h => (∃ old, IsEnum h e it ((i : Nat) : Int) old) ∧ h.IsTupleIter it a i ∧ e ≠ it) where
  mem := by simp
  obj := fun i h st b hb => by
    obtain ⟨⟨old, he⟩, ⟨o, ho, hc, hd⟩, _⟩ := st
    have e' : b = e ∨ b = it := by simpa using hb
    rcases e' with z | z
    · rw [z]; exact ⟨_, he, fun v q => nomatch q⟩
    · rw [z]; exact ⟨o, ho, fun v q => by rw [hd] at q; cases q⟩
  keep := fun i h h' st k => let ⟨⟨old, he⟩, hi, hne⟩ := st; ⟨⟨old, k e (by simp) _ he⟩, hi.at fun o q => k it (by simp) o q, hne⟩
  item := by
    intro X hP hw hK hc i pins s σ H E I hf st hg
    subst hP hw hK
    obtain ⟨⟨old, he⟩, hit, hne⟩ := st
    obtain ⟨xs, x, hq, hx⟩ := hg
    obtain ⟨its, rv, p, hz⟩ := I.tuple hq
    obtain ⟨u, hu, ru⟩ := rv.get hx
    have hel : e < s.heap.objs.size := Heap.lt_size he
    have hil : it < s.heap.objs.size := by obtain ⟨_, q, _⟩ := hit; exact Heap.lt_size q
    have hai : a ≠ it := by
      rintro rfl
      obtain ⟨o, e1, c1, _⟩ := hit
      obtain ⟨o', e2, c2, _⟩ := p
      rw [e1] at e2; cases e2
      rw [c1] at c2
      exact absurd c2 (by decide)
    have hae : e ≠ a := by
      rintro rfl
      obtain ⟨o', e2, c2, _⟩ := p
      have he' : s.heap.get? e = some _ := he
      rw [he'] at e2; cases e2
      exact absurd (show Value.type "enumerate" = .type "tuple" from c2) (by decide)
    have D := drawsT (prog := X.prog) (w := X.w) (A := X.A.in1) (I.ok.hd hc) it a hai its.toArray
    refine wpAny_pyNext_enum_itemD D he ⟨hit, p⟩ (by
      have := (List.getElem?_eq_some_iff.mp hu).1
      simpa using this) hne (by simp [hne, hae]) fun y h' tk hP ho st' hT hsz hk => ?_
    have hyu : y = u := by
      have : its.toArray[i]? = some u := by simpa using hu
      rw [hP] at this
      exact Option.some.inj this
    subst hyu
    refine ⟨_, rfl, wpAny_letOwnedTupleGo_enum (s := { s with heap := h', toks := tk + 1 }) ho fun h'' he' sb => ?_⟩
    have hT2 : h''.get? s.heap.objs.size = some { cls := .type "tuple", data := .seq #[.int i tk, y] } := (sb.2 _ (Nat.ne_of_gt hel)).trans hT
    have new : ObjOk X.prog X.w (upd H s.heap.objs.size (.tup [.int (i : Nat), x])) h'' s.heap.objs.size (.tup [.int (i : Nat), x]) :=
      ⟨by show 2 ≤ sizeLine; decide, [.int i tk, y], .cons ⟨_, rfl⟩ (.cons ru .nil), ⟨_, hT2, rfl, _, rfl⟩⟩
    have I1 : Inv X pins σ (upd H s.heap.objs.size (.tup [.int (i : Nat), x])) { s with heap := h'', toks := tk + 1 } :=
      I.turnedNew (ch := [e, it]) (fun b ob hb q => (sb.2 b (fun z => hb (by simp [z]))).trans (hk b ob (fun z => hb (by simp [z])) (fun z => hb (by simp [z])) q)) hf (Nat.le_refl _) new
    refine ⟨.ref s.heap.objs.size, _, I1, rfl, ⟨_, x, rfl, I.hok.fresh (Nat.le_refl _), rfl, fun ys hy => by rw [I.tuple_inj hy hq]; exact hx⟩, ⟨⟨y, ?_⟩, st'.1.at fun o q => (sb.2 it (Ne.symm hne)).trans q, hne⟩, fun b hb => ?_⟩
    · have e1 : ((i + 1 : Nat) : Int) = (i : Int) + 1 := by omega
      rw [e1]; exact he'
    · have hb' : b < s.heap.objs.size := by
        have e' : b = e ∨ b = it := by simpa using hb
        rcases e' with z | z
        · rw [z]; exact hel
        · rw [z]; exact hil
      rw [upd_ne (Nat.ne_of_lt hb')]
      exact (hf b hb).1
  done := by
    intro X hP hw hK hc i pins s σ H E I hf st hg
    subst hP hw hK
    obtain ⟨⟨old, he⟩, hit, hne⟩ := st
    obtain ⟨xs, hq, hx⟩ := hg
    obtain ⟨its, rv, p, hz⟩ := I.tuple hq
    obtain ⟨f0, f1, f2, f3, f4, f5⟩ := hf it (by simp)
    have hl := rv.length
    exact pyNext_enumT_end (I.ok.hd hc) he hit p (by simp; omega) fun h' eb => ⟨rfl, I.turned (t' := s.toks) (fun b o hb q => eb b o hb q) f0 f1 f3 f4 f5⟩
  self := fun A i s Q E st h => let ⟨⟨_, he⟩, _⟩ := st; wpAny_pyIter_enum he h
section
variable {G : Wd} {X : Cx} {Wx : WX}
theorem pi_enum2 {e : Expr} {ta : TA} {p pos tpos : Pos} {elts : List Expr} {kk : Nat} (hg : Gl X "enumerate") (hm : X.mg "enumerate" = none) (ha : PA X [e] ta) (hs : starEach [e] X.env = [(false, eval e X.env)] := by rfl) :
    PI X (.Tuple elts kk tpos) (.Call (.Name "enumerate" p) [e] [] pos) (fun σ H R => ta σ H fun vs H1 => ∃ a, vs = [.ref a] ∧ ((∃ xs, SqL X.K H1 a xs ∧ R (Ite X.K a) H1) ∨ ∃ xs, SqT X.K H1 a xs ∧ R (IteT X.K a) H1)) := by
  refine ⟨fun pins s σ H R I h => ?_⟩
  refine Call_ (ld_blt I hg hm boot_enumerate (PyProof.Rows.callWith_type1 (thn (ha.run pos pins s σ H _ I h) fun us s1 ⟨vs, H1, I1, r1, q1⟩ => ?_) hs rfl))
  obtain ⟨a, ex, q⟩ := q1
  subst ex
  cases r1 with
  | cons r rr =>
    cases rr
    cases r
    rcases q with ⟨xs, hq, q⟩ | ⟨xs, hq, q⟩
    · obtain ⟨its, rv, p', hz⟩ := I1.list hq
      refine call_enumerate_list p'.isList fun h' he hit hsz hk => wpAny_pyIter_enum he ?_
      have I2 : Inv X pins σ H1 { s1 with heap := h' } := I1.kept (t' := s1.toks) hk
      refine ⟨s1.heap.objs.size + 1, [s1.heap.objs.size + 1, s1.heap.objs.size], _, _, H1, rfl, I2, turn_enum a (s1.heap.objs.size + 1) s1.heap.objs.size, ⟨⟨.none, he⟩, hit, Nat.succ_ne_self _⟩, fun b hb => ?_, q⟩
      have e' : b = s1.heap.objs.size + 1 ∨ b = s1.heap.objs.size := by simpa using hb
      have hle : s1.heap.objs.size ≤ b := by
        rcases e' with z | z
        · rw [z]; exact Nat.le_add_right _ _
        · rw [z]; exact Nat.le_refl _
      exact I1.fpOk hle (I1.hok.fresh hle)
    · obtain ⟨its, rv, p', hz⟩ := I1.tuple hq
      refine call_enumT (items := its.toArray) p' fun h' he hit hk => wpAny_pyIter_enum he ?_
      have I2 : Inv X pins σ H1 { s1 with heap := h' } := I1.kept (t' := s1.toks) hk
      refine ⟨s1.heap.objs.size + 1, [s1.heap.objs.size + 1, s1.heap.objs.size], _, _, H1, rfl, I2, turn_enumT a (s1.heap.objs.size + 1) s1.heap.objs.size, ⟨⟨.none, he⟩, hit, Nat.succ_ne_self _⟩, fun b hb => ?_, q⟩
      have e' : b = s1.heap.objs.size + 1 ∨ b = s1.heap.objs.size := by simpa using hb
      have hle : s1.heap.objs.size ≤ b := by
        rcases e' with z | z
        · rw [z]; exact Nat.le_add_right _ _
        · rw [z]; exact Nat.le_refl _
      exact I1.fpOk hle (I1.hok.fresh hle)
def enD : Nat → List D → List D
  | _, [] => []
  | k, d :: ds => .tup [.int k, d] :: enD (k + 1) ds
theorem enD_get : ∀ {ds : List D} {k i : Nat}, (enD k ds)[i]? = ds[i]?.map fun d => .tup [.int ((k + i : Nat) : Int), d]
  | [], _, _ => by simp [enD]
  | d :: ds, k, 0 => by simp [enD]
  | d :: ds, k, i + 1 => by
    unfold enD
    rw [List.getElem?_cons_succ, List.getElem?_cons_succ, enD_get, show k + 1 + i = k + (i + 1) by omega]
theorem serves_enumL {K : PySem.W.Frag} {N : Addr → Prop} {H : Hp} {a : Addr} {ds : List D} {vs : List V} (n : N a) (h : H a = some (.lst vs)) (r : Reps G N H ds vs) : Serves G N (Ite K a) (enD 0 ds) H := fun HP p i H' s => by
  have h' : SqL K H' a vs := .of (s.at (p.has a _ h (.inl n)))
  have r' := (r.part p).same s
  refine ⟨fun d e => ?_, fun e => ⟨vs, h', ?_⟩⟩
  · rw [enD_get] at e
    obtain ⟨d', e, ed⟩ := Option.map_eq_some_iff.mp e
    obtain ⟨v, e1, r1⟩ := r'.get' e
    refine ⟨⟨vs, v, h', e1⟩, fun x H'' y => ?_⟩
    obtain ⟨T, w, y1, y2, y3, y4⟩ := (show ∃ T x', x = .ref T ∧ H' T = none ∧ H'' = upd H' T (.tup [.int (i : Nat), x']) ∧ ∀ xs, SqL K H' a xs → xs[i]? = some x' from y)
    have := y4 vs h'
    rw [e1] at this
    cases this
    subst y1 y3 ed
    have s2 : Same G H' (upd H' T (.tup [.int (i : Nat), v])) := Same.updN (Same.refl H') y2
    refine ⟨s2, T, _, rfl, .inl upd_same, .int ((0 + i : Nat) : Int), [v], by rw [Nat.zero_add], rfl, .one (r1.same s2)⟩
  · rw [enD_get] at e
    rw [r.length]
    have e : ds[i]? = none := by simpa using e
    exact List.getElem?_eq_none_iff.mp e
theorem serves_enumT {N : Addr → Prop} {H : Hp} {a : Addr} {ds : List D} {vs : List V} (h : TupAt G.K H a vs) (r : Reps G N H ds vs) : Serves G N (IteT G.K a) (enD 0 ds) H := fun HP p i H' s => by
  have h' : SqT G.K H' a vs := ((Le.of s).tupT (p.has.tupT h)).sq
  have r' := (r.part p).same s
  refine ⟨fun d e => ?_, fun e => ⟨vs, h', ?_⟩⟩
  · rw [enD_get] at e
    obtain ⟨d', e, ed⟩ := Option.map_eq_some_iff.mp e
    obtain ⟨v, e1, r1⟩ := r'.get' e
    refine ⟨⟨vs, v, h', e1⟩, fun x H'' y => ?_⟩
    obtain ⟨T, w, y1, y2, y3, y4⟩ := (show ∃ T x', x = .ref T ∧ H' T = none ∧ H'' = upd H' T (.tup [.int (i : Nat), x']) ∧ ∀ xs, SqT G.K H' a xs → xs[i]? = some x' from y)
    have := y4 vs h'
    rw [e1] at this
    cases this
    subst y1 y3 ed
    have s2 : Same G H' (upd H' T (.tup [.int (i : Nat), v])) := Same.updN (Same.refl H') y2
    refine ⟨s2, T, _, rfl, .inl upd_same, .int ((0 + i : Nat) : Int), [v], by rw [Nat.zero_add], rfl, .one (r1.same s2)⟩
  · rw [enD_get] at e
    rw [r.length]
    have e : ds[i]? = none := by simpa using e
    exact List.getElem?_eq_none_iff.mp e
def enumD : List D → W Ex (List D)
  | [.lst ds] => W.ret (enD 0 ds)
  | [.tup ds] => W.ret (enD 0 ds)
  | _ => W.fail
theorem enumD_mono (ds : List D) : W.Mono (enumD ds) := by
  unfold enumD
  split <;> first | exact W.Mono.ret | exact W.Mono.fail
theorem enumD_inv {ds : List D} {Q : List D → Prop} {E : Ex → Prop} (h : enumD ds Q E) : ∃ xs, (ds = [.lst xs] ∨ ds = [.tup xs]) ∧ Q (enD 0 xs) := by
  unfold enumD at h
  split at h
  · exact ⟨_, .inl rfl, h⟩
  · exact ⟨_, .inr rfl, h⟩
  · exact h.elim
def mEnum (m : Ro → W Ex (List D)) : Ro → W Ex (List D) := fun ρ => W.bind (m ρ) enumD
theorem di_enum {e : Expr} {m : Ro → W Ex (List D)} {p pos tpos : Pos} {elts : List Expr} {kk : Nat} (ZK : X.K = G.K) (Z : X.mg = G.mg) (hg : Gl X "enumerate") (hm : G.mg "enumerate" = none) (ha : DA G X Wx [e] m) (hs : starEach [e] X.env = [(false, eval e X.env)] := by rfl) : DI G X Wx (.Tuple elts kk tpos) (.Call (.Name "enumerate" p) [e] [] pos) (mEnum m) := by
  refine DI.imp (fun ρ => (ha.mono ρ).bind fun d => enumD_mono d) (pi_enum2 hg (Z ▸ hm) ha.pa hs) fun N ρ σ H R r q => ?_
  refine ha.go r q (fun x z => z) fun ds vs H1 z s1 r1 _ => ?_
  obtain ⟨xs, h, z⟩ := enumD_inv z
  rcases h with rfl | rfl
  · obtain ⟨v, rfl, a, ws, rfl, n, hq, rs⟩ := r1.one_inv
    exact ⟨a, rfl, .inl ⟨ws, .of hq, z _ H1 s1 (serves_enumL n hq rs)⟩⟩
  · obtain ⟨v, rfl, a, ws, rfl, hq, rs⟩ := r1.one_inv
    exact ⟨a, rfl, .inr ⟨ws, ZK ▸ hq.sq, z _ H1 s1 (ZK ▸ serves_enumT hq rs)⟩⟩
/-! ### a list, a tuple or a text -/
def walkD : D → W Ex (List D)
  | .lst ds => W.ret ds
  | .tup ds => W.ret ds
  | .str x => W.ret (x.cps.toList.map fun c => .str ⟨#[c]⟩)
  | _ => W.fail
theorem walkD_mono (d : D) : W.Mono (walkD d) := by
  unfold walkD
  split <;> first | exact W.Mono.ret | exact W.Mono.fail
theorem serves_str {N : Addr → Prop} {H : Hp} {x : Str} : Serves G N (Its x) (x.cps.toList.map fun c => D.str ⟨#[c]⟩) H := fun HP p i H' s => by
  rw [List.getElem?_map, Array.getElem?_toList]
  refine ⟨fun d e => ?_, fun e => ?_⟩
  · obtain ⟨c, ec, ed⟩ := Option.map_eq_some_iff.mp e
    refine ⟨(Array.getElem?_eq_some_iff.mp ec).1, fun v H'' y => ?_⟩
    obtain ⟨rfl, c', ec', rfl⟩ := (show H'' = H' ∧ ∃ c, x.cps[i]? = some c ∧ v = .str ⟨#[c]⟩ from y)
    rw [ec] at ec'
    cases ec'
    subst ed
    exact ⟨Same.refl _, rfl⟩
  · have e : x.cps[i]? = none := by simpa using e
    exact Array.getElem?_eq_none_iff.mp e
theorem pi_walk {tg e : Expr} {te : TE} (he : PE X e te) : PI X tg e (fun σ H R => te σ H fun x H1 => ((∃ a, x = .ref a ∧ (∃ xs, SqL X.K H1 a xs) ∧ R (Itl X.K a) H1) ∨ ∃ a, x = .ref a ∧ (∃ xs, SqT X.K H1 a xs) ∧ R (Itt X.K a) H1) ∨ ∃ z, x = .str z ∧ R (Its z) H1) := by
  refine ⟨fun pins s σ H R I h => ?_⟩
  have go := he.run pins s σ H _ I h
  refine thn go fun v s1 ⟨x, H1, I1, r1, q1⟩ => ?_
  rcases q1 with (⟨a, e, ⟨xs, hq⟩, q⟩ | ⟨a, e, ⟨xs, hq⟩, q⟩) | ⟨z, e, q⟩
  · subst e
    cases r1
    obtain ⟨its, rv, p, hz⟩ := I1.list hq
    refine wpAny_pyIter_list p.isList ?_
    refine ⟨s1.heap.objs.size, [s1.heap.objs.size], _, _, H1, rfl, I1.kept (t' := s1.toks) fun b o e => Heap.get?_push_of_some _ e, turn_list a _, ⟨_, Heap.get?_push_size _ rfl, rfl, rfl⟩, fun b hb => ?_, q⟩
    have e : b = s1.heap.objs.size := by simpa using hb
    subst e
    exact I1.fpOk (Nat.le_refl _) (I1.hok.fresh (Nat.le_refl _))
  · subst e
    cases r1
    obtain ⟨its, rv, p, hz⟩ := I1.tuple hq
    refine wpAny_pyIter_tuple (show s1.heap.IsTuple a its.toArray from p) ?_
    refine ⟨s1.heap.objs.size, [s1.heap.objs.size], _, _, H1, rfl, I1.kept (t' := s1.toks) fun b o e => Heap.get?_push_of_some _ e, turn_tuple a _, ⟨_, Heap.get?_push_size _ rfl, rfl, rfl⟩, fun b hb => ?_, q⟩
    have e : b = s1.heap.objs.size := by simpa using hb
    subst e
    exact I1.fpOk (Nat.le_refl _) (I1.hok.fresh (Nat.le_refl _))
  · subst e
    obtain ⟨t, rfl⟩ := r1
    cases ha : z.cps.all (· < 128)
    · exact wpAny_pyIter_wide ha (pi_one (tk := s1.toks) I1 _ (turn_str _ z t "str_iterator" (.inr rfl)) ⟨_, Heap.get?_push_size _ rfl, rfl, rfl⟩ q)
    · exact wpAny_pyIter_ascii ha (pi_one (tk := s1.toks) I1 _ (turn_str _ z t "str_ascii_iterator" (.inl rfl)) ⟨_, Heap.get?_push_size _ rfl, rfl, rfl⟩ q)
def mWalk (m : Ro → W Ex D) : Ro → W Ex (List D) := fun ρ => W.bind (m ρ) walkD
theorem di_walk {tg e : Expr} {m : Ro → W Ex D} (Z : X.K = G.K) (he : DE G X Wx e m) : DI G X Wx tg e (mWalk m) := by
  refine DI.imp (fun ρ => (he.mono ρ).bind fun d => walkD_mono d) (pi_walk he.pe) fun N ρ σ H R r q => ?_
  refine he.go r q (fun x z => z) fun d v H1 z s1 r1 _ => ?_
  cases d with
  | lst ds =>
    obtain ⟨a, vs, ev, n, h, rs⟩ := r1
    exact .inl (.inl ⟨a, ev, ⟨vs, .of h⟩, z _ H1 s1 (serves_lst n h rs)⟩)
  | tup ds =>
    obtain ⟨a, vs, ev, h, rs⟩ := r1
    exact .inl (.inr ⟨a, ev, ⟨vs, Z ▸ h.sq⟩, z _ H1 s1 (Z ▸ serves_tup h rs)⟩)
  | str x => exact .inr ⟨x, r1, z _ H1 s1 serves_str⟩
  | _ => exact z.elim
end
end Fb
end

section
set_option Elab.async false
set_option linter.all false
set_option maxRecDepth 100000
set_option maxHeartbeats 4000000
/-! What the printed proofs use. -/
namespace Fb
open PySem PySem.Spec PyProof.Rows L2
section
variable {P : Program} {w : World} {G : Wd} {base : Heap} {k : Nat} {X : Cx} {Wx : WX}
def A0 : Around := { handled := none, depth := 0, units := 0, guards := some [], frames := some [] }
theorem Cz.hu (Z : Cz P w G base k X Wx) : X.A.units + 65 < cLine := by
  have := Z.room.un
  omega
theorem Cz.hu64 (Z : Cz P w G base k X Wx) : X.A.units + 64 < cLine := Nat.lt_of_succ_lt Z.hu
theorem Cz.hu1 (Z : Cz P w G base k X Wx) : X.A.units + 1 < cLine := by
  have := Z.hu
  omega
theorem Cz.blk (Z : Cz P w G base k X Wx) (s : Shared) (H : Hp) (scope : Scope) (cenv : Env) (fp : List Addr) : Cz P w G base k (X.blk s H scope cenv fp) WxF :=
  ⟨Z.P, Z.w, Z.K, Z.mg, Z.base, Z.room, Z.gd, fun u s' ⟨_, _, _, _, _, _, _, _, _, _, _, _, _, _, _, _, h⟩ => h.elim⟩
theorem cz_of {A : Around} {outer : List Env} {s : Shared} {H : Hp} {E : XK} {Ns : List Str} {qual : Str} {sc : Scope} {f : Addr} {cdv : Value} (hr : Room k (A.deeper (envOfC qual sc s.heap.objs.size f cdv))) (hg : A.guards = some []) : Cz P w G base k (cxD P w G base Ns qual sc f cdv A outer s H E) (wxD E) :=
  ⟨rfl, rfl, rfl, rfl, rfl, hr, hg, takes_of rfl rfl rfl rfl⟩
theorem room0 {env : Env} (hk : k ≤ 100) : Room k (A0.deeper env) := ⟨rfl, by show 0 + 1 + 3 * k + 5 < 1000; omega, by show 0 + 3 + 16 * k + 200 < 9900; omega⟩
/-- THE RULE: a def by its body -/
theorem fnd_ok {f : Addr} {x qual : Str} {st : Stmt} {fd : FuncData} {Ns ps : List Str} {b : En → WS} (F : Fun G.K x qual st f fd) (S : FnScope Ns ps (defScope st)) (hk : k ≤ 100)
    (body : ∀ (cdv : Value) (A : Around) (outer : List Env) (s : Shared) (H : Hp) (E : XK), Cz P w G base k (cxD P w G base Ns qual (defScope st) f cdv A outer s H E) (wxD E) →
      DSs G (cxD P w G base Ns qual (defScope st) f cdv A outer s H E) (wxD E) (defBody st) b) : FnD P w G base (k + 1) f fd ps (runBody Ns.length b) := by
  obtain ⟨oc, od, kV, doc, pm, an, cdv, ct, osl, rfl, lk, hcd⟩ := F.ex
  exact fnd_of lk hcd S (fun ρ => (body cdv A0 [] {} (fun _ => none) (fun _ _ _ => True) (cz_of (room0 hk) rfl)).mono ρ) fun A outer s H E Z => body cdv A outer s H E Z
/-- .. an __init__ with one default, () -/
structure FunI (K : PySem.W.Frag) (x qual : Str) (st : Stmt) (f : Addr) (fd : FuncData) (ed : Addr) : Prop where
  ex : ∃ (oc : Value) (od : Option Addr) (T : Addr) (oT : Obj) (nT : Nat) (kV doc pm : Value) (an : Option Addr) (cdv ct : Value) (osl : Array (Option Value)),
    fd = PySem.W.fnOf x qual (defArgs st) (defBody st) (defScope st) (.ref T) kV doc pm an cdv ct ∧ K.lookup f = some ⟨oc, od, .func fd, osl⟩ ∧ PySem.W.codeIn K cdv qual = true ∧ K.lookup T = some oT ∧ oT.data = .seq #[.ref ed] nT
  ed : ∃ (oe : Obj) (ne : Nat), K.lookup ed = some oe ∧ oe.cls = .type "tuple" ∧ oe.data = .seq #[] ne
  kp : PySem.W.keepIn K (.ref f) = true
theorem fni_ok {f C : Addr} {x qual : Str} {st : Stmt} {fd : FuncData} {Ns ps : List Str} {b : IW} {ed : Addr} (F : FunI G.K x qual st f fd ed) (S : FnScope Ns ps (defScope st)) (hk : k ≤ 100)
    (body : ∀ (cdv : Value) (A : Around) (outer : List Env) (s : Shared) (H : Hp) (E : XK), Cz P w G base k (cxD P w G base Ns qual (defScope st) f cdv A outer s H E) (wxD E) →
      DSi G (cxD P w G base Ns qual (defScope st) f cdv A outer s H E) (wxD E) C (defBody st) b) : FnI P w G base (k + 1) f fd ps C (runIni Ns.length b) := by
  obtain ⟨oc, od, T, oT, nT, kV, doc, pm, an, cdv, ct, osl, rfl, lk, hcd, _, _⟩ := F.ex
  exact fni_of lk hcd S (fun ρ => (body cdv A0 [] {} (fun _ => none) (fun _ _ _ => True) (cz_of (room0 hk) rfl)).mono ρ) fun A outer s H E Z => body cdv A outer s H E Z
theorem funI_mk {x qual : Str} {st : Stmt} {f T ed : Addr} {K : PySem.W.Frag} {oc : Value} {od an : Option Addr} {osl : Array (Option Value)} {kV doc pm cdv ct oc1 : Value} {od1 od2 : Option Addr} {n1 n2 : Nat} {sl1 sl2 : Array (Option Value)} (l : K.lookup f = some ⟨oc, od, .func (PySem.W.fnOf x qual (defArgs st) (defBody st) (defScope st) (.ref T) kV doc pm an cdv ct), osl⟩)
    (c : PySem.W.codeIn K cdv qual = true) (lT : K.lookup T = some ⟨oc1, od1, .seq #[.ref ed] n1, sl1⟩) (le : K.lookup ed = some ⟨.type "tuple", od2, .seq #[] n2, sl2⟩) (k : PySem.W.keepIn K (.ref f) = true) : FunI K x qual st f (PySem.W.fnOf x qual (defArgs st) (defBody st) (defScope st) (.ref T) kV doc pm an cdv ct) ed :=
  ⟨⟨oc, od, T, _, n1, kV, doc, pm, an, cdv, ct, osl, rfl, l, c, lT, rfl⟩, ⟨_, n2, le, rfl, rfl⟩, k⟩
theorem FunI.binds {x qual : Str} {st : Stmt} {f ed : Addr} {fd : FuncData} {ps : List Str} {K : PySem.W.Frag} (F : FunI K x qual st f fd ed)
    (h : ∀ (T : Addr) (kV doc pm : Value) (an : Option Addr) (cdv ct : Value) (us its : List Value), us.length = ps.length → its.length = 1 →
      ∃ k, bindArgs (PySem.W.fnOf x qual (defArgs st) (defBody st) (defScope st) (.ref T) kV doc pm an cdv ct) ⟨us, []⟩ = seqItems? (.ref T) >>= k ∧ k (some its.toArray) = pure (ps.zip us)) : Binds K fd ps [] := by
  obtain ⟨oc, od, T, oT, nT, kV, doc, pm, an, cdv, ct, osl, rfl, lk, hcd, lT, dT⟩ := F.ex
  intro s us X hl
  rw [List.append_nil] at hl ⊢
  obtain ⟨k, e1, e2⟩ := h T kV doc pm an cdv ct us [.ref ed] hl rfl
  refine L2.BindsTo.of_looks fun M => ?_
  rw [e1]
  exact looks_items X lT dT (.of_pure e2)
theorem FunI.binds1 {x qual : Str} {st : Stmt} {f ed : Addr} {fd : FuncData} {ps : List Str} {K : PySem.W.Frag} (F : FunI K x qual st f fd ed)
    (h : ∀ (T : Addr) (kV doc pm : Value) (an : Option Addr) (cdv ct : Value) (us its : List Value), us.length + 1 = ps.length → its.length = 1 →
      ∃ k, bindArgs (PySem.W.fnOf x qual (defArgs st) (defBody st) (defScope st) (.ref T) kV doc pm an cdv ct) ⟨us, []⟩ = seqItems? (.ref T) >>= k ∧ k (some its.toArray) = pure (ps.zip (us ++ its))) : Binds K fd ps [.ref ed] := by
  obtain ⟨oc, od, T, oT, nT, kV, doc, pm, an, cdv, ct, osl, rfl, lk, hcd, lT, dT⟩ := F.ex
  intro s us X hl
  obtain ⟨k, e1, e2⟩ := h T kV doc pm an cdv ct us [.ref ed] (by simpa using hl) rfl
  refine L2.BindsTo.of_looks fun M => ?_
  rw [e1]
  exact looks_items X lT dT (.of_pure e2)
/-- a def of the module: where it stands, what it does -/
structure FnK (P : Program) (w : World) (G : Wd) (base : Heap) (k : Nat) (x : Str) (ps : List Str) (sem : List D → Rt) : Prop where
  ex : ∃ (f : Addr) (fd : FuncData), G.mg x = some (.ref f) ∧ PySem.W.keepIn G.K (.ref f) = true ∧ Binds G.K fd ps [] ∧ FnD P w G base k f fd ps sem
/-- f(e, ..) of a def without defaults -/
theorem dr_f {x : Str} {j : Nat} {e : Expr} {es : List Expr} {p pos : Pos} {ps : List Str} {sem : List D → Rt} {m : Ro → W Ex (List D)} (Z : Cz P w G base k X Wx) (F : FnK P w G base j x ps sem) (hj : j ≤ k) (hg : Gl X x) (ha : DA G X Wx (e :: es) m) (hdb : (x == ("__debug__" : Str)) = false := by decide)
    (he : starEach (e :: es) X.env = (false, eval e X.env) :: starEach es X.env := by rfl) (hpl : (backTo pos (starEach es X.env)).any (·.1) = false := by rfl) : DR G X Wx (.Call (.Name x p) (e :: es) [] pos) (mCall ps.length sem [] m) := by
  obtain ⟨f, fd, h1, h2, h3, h4⟩ := F.ex
  exact dr_call (dvs := []) Z h4 hj h1 h2 h3 .nil (fun _ _ => rfl) hg ha hdb he hpl
/-- short names for what turns one judgement into another -/
def mDe (m : Ro → W Ex (Bool × D)) : Ro → W Ex D := fun ρ => W.bind (m ρ) fun r => W.ret r.2
def mDr (m : Ro → W Ex D) : Ro → W Ex (Bool × D) := fun ρ => W.bind (m ρ) fun d => W.ret (false, d)
theorem dde {e : Expr} {m : Ro → W Ex (Bool × D)} (h : DR G X Wx e m) : DE G X Wx e (mDe m) := h.de
theorem ddr {e : Expr} {m : Ro → W Ex D} (h : DE G X Wx e m) : DR G X Wx e (mDr m) := h.dr
theorem dv (i : Nat) {x : Str} {pos : Pos} (hN : X.N[i]? = some x := by rfl) (hv : Vis X.env.scope x := by first | exact Or.inl rfl | exact Or.inr (Or.inl rfl) | exact Or.inr (Or.inr rfl)) (hd : (x == ("__debug__" : Str)) = false := by decide) (hcd : (x == ("__classdict__" : Str)) = false := by decide) : DE G X Wx (.Name x pos) (mVar i) := de_var i (pv i hN hv hd hcd)
/-- a type of Python by its name -/
theorem dty {x : Str} {n : String} {pos : Pos} (Z : Cz P w G base k X Wx) (hg : Gl X x) (hm : G.mg x = none) (hv : bootBuiltins x = some (.type n)) (hn : x ≠ "__name__" := by decide) (hd : (x == ("__debug__" : Str)) = false := by decide) : DE G X Wx (.Name x pos) (mC (.ty n)) :=
  de_const (v := .ty n) (pe_bltn hg (Z.mg ▸ hm) hv rfl hn hd) fun _ _ => rfl
/-- a number or a text of the module -/
theorem dgi {x : Str} {i : Int} {t : Tok} {pos : Pos} (Z : Cz P w G base k X Wx) (hg : Gl X x) (hm : G.mg x = some (.int i t)) (hd : (x == ("__debug__" : Str)) = false := by decide) : DE G X Wx (.Name x pos) (mC (.int i)) :=
  de_const (v := .int i) (pe_glob hg (Z.mg ▸ hm) ⟨t, rfl⟩ hd) fun _ _ => rfl
theorem dgs {x : Str} {i : Str} {t : Tok} {pos : Pos} (Z : Cz P w G base k X Wx) (hg : Gl X x) (hm : G.mg x = some (.str i t)) (hd : (x == ("__debug__" : Str)) = false := by decide) : DE G X Wx (.Name x pos) (mC (.str i)) :=
  de_const (v := .str i) (pe_glob hg (Z.mg ▸ hm) ⟨t, rfl⟩ hd) fun _ _ => rfl
/-- what no proof comes to -/
def mNo : En → WS := fun _ => W.fail
theorem ds_no {st : Stmt} : DS G X Wx st mNo := ⟨⟨fun pins s σ H D' I ⟨_, _, _, _, q⟩ => q.elim⟩, fun _ => W.Mono.fail⟩
end
end Fb
end

section
set_option Elab.async false
set_option linter.all false
set_option maxRecDepth 100000
set_option maxHeartbeats 4000000
/-! The box of draws: opened, drawn from, closed. -/
namespace Fb
open PySem PySem.Spec PyProof.Rows L2
section
variable {X : Cx} {pins : List (Addr × Obj)} {σ : Fb.St} {H : Hp} {s : Shared} {a b : Addr}
theorem openB (I : Inv X pins σ H s) (h : H b = some (.ext (boxB b))) : ∃ ns : List Int, ns.length ≤ 100 ∧ Inv X pins σ (upd H b (.lst (ns.map V.int))) s := by
  obtain ⟨⟨ns, its, n, hl, r, e⟩, _, _⟩ := (show ObjOk X.prog X.w H s.heap b (.ext (boxB b)) from I.hok b _ h)
  refine ⟨ns, hl, I.write (x := b) (e := b) (t' := s.toks) (h' := s.heap) (by rw [h]; trivial) (.inl rfl) (fun _ _ _ q => q) ⟨_, e⟩ ⟨?_, its, n, r, e⟩⟩
  rw [List.length_map, sizeLine_eq]; omega
theorem openA (I : Inv X pins σ H s) (h : H a = some (.ext (boxA a b))) : ∃ m : Int, Inv X pins σ (upd H a (.lst [.ref b, .int m])) s := by
  obtain ⟨⟨m, its, n, r, e⟩, _, _⟩ := (show ObjOk X.prog X.w H s.heap a (.ext (boxA a b)) from I.hok a _ h)
  exact ⟨m, I.write (x := a) (e := a) (t' := s.toks) (h' := s.heap) (by rw [h]; trivial) (.inl rfl) (fun _ _ _ q => q) ⟨_, e⟩ ⟨by rw [sizeLine_eq]; show 2 ≤ _; omega, its, n, r, e⟩⟩
theorem openC (I : Inv X pins σ H s) (h : H a = some (.ext (boxC a))) : ∃ i m : Int, Inv X pins σ (upd H a (.lst [.int i, .int m])) s := by
  obtain ⟨⟨i, m, its, n, r, e⟩, _, _⟩ := (show ObjOk X.prog X.w H s.heap a (.ext (boxC a)) from I.hok a _ h)
  exact ⟨i, m, I.write (x := a) (e := a) (t' := s.toks) (h' := s.heap) (by rw [h]; trivial) (.inl rfl) (fun _ _ _ q => q) ⟨_, e⟩ ⟨by rw [sizeLine_eq]; show 2 ≤ _; omega, its, n, r, e⟩⟩
theorem closeB {ns : List Int} (I : Inv X pins σ H s) (h : H b = some (.lst (ns.map V.int))) (hl : ns.length ≤ 100) : Inv X pins σ (upd H b (.ext (boxB b))) s := by
  obtain ⟨_, its, n, r, e⟩ := (show ObjOk X.prog X.w H s.heap b (.lst (ns.map V.int)) from I.hok b _ h)
  exact I.write (x := b) (e := b) (t' := s.toks) (h' := s.heap) (by rw [h]; trivial) (.inl rfl) (fun _ _ _ q => q) ⟨_, e⟩ ⟨⟨ns, its, n, hl, r, e⟩, ⟨_, e⟩, fun h1 h2 ⟨ns, its, n, hl, r, e⟩ k => ⟨ns, its, n, hl, r, k _ e⟩⟩
theorem closeA {m : Int} (I : Inv X pins σ H s) (h : H a = some (.lst [.ref b, .int m])) : Inv X pins σ (upd H a (.ext (boxA a b))) s := by
  obtain ⟨_, its, n, r, e⟩ := (show ObjOk X.prog X.w H s.heap a (.lst [.ref b, .int m]) from I.hok a _ h)
  exact I.write (x := a) (e := a) (t' := s.toks) (h' := s.heap) (by rw [h]; trivial) (.inl rfl) (fun _ _ _ q => q) ⟨_, e⟩ ⟨⟨m, its, n, r, e⟩, ⟨_, e⟩, fun h1 h2 ⟨m, its, n, r, e⟩ k => ⟨m, its, n, r, k _ e⟩⟩
theorem closeC {i m : Int} (I : Inv X pins σ H s) (h : H a = some (.lst [.int i, .int m])) : Inv X pins σ (upd H a (.ext (boxC a))) s := by
  obtain ⟨_, its, n, r, e⟩ := (show ObjOk X.prog X.w H s.heap a (.lst [.int i, .int m]) from I.hok a _ h)
  exact I.write (x := a) (e := a) (t' := s.toks) (h' := s.heap) (by rw [h]; trivial) (.inl rfl) (fun _ _ _ q => q) ⟨_, e⟩ ⟨⟨i, m, its, n, r, e⟩, ⟨_, e⟩, fun h1 h2 ⟨i, m, its, n, r, e⟩ k => ⟨i, m, its, n, r, k _ e⟩⟩
/-- the box within: its number, its cells; all else as in H -/
structure BoxIn (G : Wd) (H : Hp) (a b : Addr) (H' : Hp) (ns : List Int) (m : Int) : Prop where
  ne : a ≠ b
  ha : H' a = some (.lst [.ref b, .int m])
  hb : H' b = some (.lst (ns.map V.int))
  len : ns.length ≤ 100
  rest : ∀ c o, c ≠ a → c ≠ b → H c = some o → (∀ ps, o ≠ .tbl ps) → H' c = some o
  fre : ∀ c, H' c = none → H c = none
  tb : TabsG G H'
/-- a block over an open box -/
theorem pss_box (G : Wd) {sts : List Stmt} {t : TS} (h : PSs X sts t) {a b : Addr} : PSs X sts (fun D σ H => TabsG G H ∧ a ≠ b ∧ H a = some (.ext (boxA a b)) ∧ H b = some (.ext (boxB b)) ∧ ∀ ns m H1, BoxIn G H a b H1 ns m →
    t ⟨fun _ _ => False, fun v H' => ∃ ns m, BoxIn G H a b H' ns m ∧ D.rt v (upd (upd H' b (.ext (boxB b))) a (.ext (boxA a b))), fun _ _ => False, fun _ _ => False⟩ σ H1) := by
  refine ⟨fun pins s σ H D I ⟨t, ne, ha, hb, q⟩ => ?_⟩
  obtain ⟨ns, hl, I1⟩ := openB I hb
  obtain ⟨m, I2⟩ := openA (a := a) (b := b) I1 (by rw [upd_ne ne]; exact ha)
  have bx : BoxIn G H a b (upd (upd H b (.lst (ns.map V.int))) a (.lst [.ref b, .int m])) ns m := ⟨ne, upd_same, by rw [upd_ne ne.symm, upd_same], hl, fun c o h1 h2 e _ => by rw [upd_ne h1, upd_ne h2]; exact e, fun c e => by
    by_cases h1 : c = a
    · subst h1; rw [upd_same] at e; cases e
    · by_cases h2 : c = b
      · subst h2; rw [upd_ne h1, upd_same] at e; cases e
      · rw [upd_ne h1, upd_ne h2] at e; exact e, tabs_upd (tabs_upd t (.inr ⟨_, hb, boxB_no⟩)) (.inr ⟨_, by rw [upd_ne ne]; exact ha, boxA_no⟩)⟩
  refine thn (h.run pins s σ _ _ I2 (q ns m _ bx)) fun f s1 z => ?_
  cases f with
  | next => obtain ⟨_, _, _, z⟩ := z; exact z.elim
  | brk => obtain ⟨_, _, _, z⟩ := z; exact z.elim
  | cont => obtain ⟨_, _, _, z⟩ := z; exact z.elim
  | ret u =>
    obtain ⟨v, σ', H', I3, rv, ns', m', bx', z⟩ := z
    have I4 := closeB I3 bx'.hb bx'.len
    have I5 := closeA (a := a) (b := b) (m := m') I4 (by rw [upd_ne bx'.ne]; exact bx'.ha)
    exact ⟨v, σ', _, I5, rv, z⟩
theorem upd_none_ne {H : Hp} {a c : Addr} {o : HO} (e : upd H a o c = none) : c ≠ a ∧ H c = none := by
  by_cases h : c = a
  · subst h; rw [upd_same] at e; cases e
  · exact ⟨h, by rw [upd_ne h] at e; exact e⟩
theorem BoxIn.same {G : Wd} {H H' : Hp} {a b : Addr} {ns : List Int} {m : Int} (x : BoxIn G H a b H' ns m) (h1 : H a = some (.ext (boxA a b))) (h2 : H b = some (.ext (boxB b))) : Same G H (upd (upd H' b (.ext (boxB b))) a (.ext (boxA a b))) := ⟨fun c o e n => by
  by_cases ca : c = a
  · subst ca; rw [upd_same]; rw [h1] at e; exact e
  · by_cases cb : c = b
    · subst cb; rw [upd_ne ca, upd_same]; rw [h2] at e; exact e
    · rw [upd_ne ca, upd_ne cb]; exact x.rest c o ca cb e n, fun c e => x.fre c (upd_none_ne (upd_none_ne e).2).2, fun _ => tabs_upd (tabs_upd x.tb (.inr ⟨_, x.hb, lst_no⟩)) (.inr ⟨_, by rw [upd_ne x.ne]; exact x.ha, lst_no⟩)⟩
theorem BoxIn.step {G : Wd} {H H' H'' : Hp} {a b : Addr} {ns : List Int} {m : Int} (x : BoxIn G H a b H' ns m) (s : Same G H' H'') : BoxIn G H a b H'' ns m := ⟨x.ne, s.at x.ha, s.at x.hb, x.len, fun c o h1 h2 e n => s.at (x.rest c o h1 h2 e n) n, fun c e => x.fre c (s.free e), s.tab x.tb⟩
theorem BoxIn.setB {G : Wd} {H H' : Hp} {a b : Addr} {ns ns' : List Int} {m : Int} (x : BoxIn G H a b H' ns m) (hl : ns'.length ≤ 100) : BoxIn G H a b (upd H' b (.lst (ns'.map V.int))) ns' m := ⟨x.ne, by rw [upd_ne x.ne]; exact x.ha, upd_same, hl, fun c o h1 h2 e n => by rw [upd_ne h2]; exact x.rest c o h1 h2 e n, fun c e => x.fre c (upd_none_ne e).2, tabs_upd x.tb (.inr ⟨_, x.hb, lst_no⟩)⟩
theorem BoxIn.setA {G : Wd} {H H' : Hp} {a b : Addr} {ns : List Int} {m m' : Int} (x : BoxIn G H a b H' ns m) : BoxIn G H a b (upd H' a (.lst [.ref b, .int m'])) ns m' := ⟨x.ne, upd_same, by rw [upd_ne x.ne.symm]; exact x.hb, x.len, fun c o h1 h2 e n => by rw [upd_ne h1]; exact x.rest c o h1 h2 e n, fun c e => x.fre c (upd_none_ne e).2, tabs_upd x.tb (.inr ⟨_, x.ha, lst_no⟩)⟩
/-- as data -/
def boxD (ns : List Int) (m : Int) : D := .lst [.lst (ns.map D.int), .int m]
theorem BoxIn.rep {G : Wd} {H H' : Hp} {a b : Addr} {ns : List Int} {m : Int} (x : BoxIn G H a b H' ns m) : Rep G NT H' (boxD ns m) (.ref a) :=
  ⟨a, _, rfl, trivial, x.ha, .ref b, _, rfl, ⟨b, _, rfl, trivial, x.hb, Reps.ofInts ns⟩, .int m, [], rfl, rfl, rfl⟩
end
end Fb
end

section
set_option Elab.async false
set_option linter.all false
set_option maxRecDepth 100000
set_option maxHeartbeats 4000000
/-! A draw from the open box, read. -/
namespace Fb
open PySem PySem.Spec PyProof.Rows L2
/-! ### data -/
theorem pys_ints : ∀ ns : List Int, D.pys (ns.map D.int) = some (ns.map PyData.int)
  | [] => rfl
  | n :: r => by
    rw [List.map_cons, List.map_cons]
    unfold D.pys
    rw [pys_ints r]
    rfl
theorem lay_ints : ∀ ns : List Int, PyData.canLayAll0 (ns.map PyData.int) = true
  | [] => by simp [PyData.canLayAll0]
  | n :: r => by
    rw [List.map_cons]
    unfold PyData.canLayAll0
    rw [lay_ints r]
    simp [PyData.canLay0]
theorem shaped_ints (ns : List Int) : SeqAt.shaped (.list (ns.map PyData.int)) = true := by
  unfold SeqAt.shaped
  have h : PyData.depthAll (ns.map PyData.int) = 0 := PySem.W.depth_ints ns
  simp [PyData.canLay0, lay_ints, PyData.depth, h]
theorem deq_nil (ns : List Int) : D.deq (.lst (ns.map D.int)) (.lst []) = some ns.isEmpty := by
  have e1 : D.py (.lst (ns.map D.int)) = some (.list (ns.map PyData.int)) := by
    show (D.pys (ns.map D.int)).map PyData.list = _
    rw [pys_ints]
    rfl
  have e2 : D.py (.lst []) = some (.list []) := rfl
  unfold D.deq
  rw [e1, e2]
  show (if SeqAt.shaped (.list (ns.map PyData.int)) = true ∧ SeqAt.shaped (.list []) = true then some (PyData.eqv (.list (ns.map PyData.int)) (.list [])) else none) = _
  rw [if_pos ⟨shaped_ints ns, shaped_ints []⟩]
  cases ns with
  | nil => rfl
  | cons n r => rfl
theorem deq_int (i j : Int) : D.deq (.int i) (.int j) = some (i == j) := by rfl
def c0 : Ro → W Ex Bool := mTest (mOp (gEq true) (mOp gIx (mVar 0) (mC (.int 0))) (mDe (mLst mNil)))
def c1 : Ro → W Ex Bool := mTest (mOp (gEq false) (mOp gIx (mOp gIx (mVar 0) (mC (.int 0))) (mNeg (mC (.int 1)))) (mC (.int 0)))
theorem ev0 (ns : List Int) (m : Int) (r : Ro) : c0 (some (boxD ns m) :: r) = W.ret (!ns.isEmpty) := by
  show (W.bind (W.calm (gEq true (.lst (ns.map D.int)) (.lst []))) asB) = _
  unfold gEq
  rw [deq_nil]
  cases ns.isEmpty <;> rfl
theorem ev1 (ns : List Int) (x m : Int) (r : Ro) (h : (ns ++ [x]).length ≤ 100) : c1 (some (boxD (ns ++ [x]) m) :: r) = W.ret (x == 0) := by
  have e : atI ((ns ++ [x]).map D.int) (-1) = some (.int x) := by
    have hx : ixN ((ns ++ [x]).map D.int).length (-1) = some ns.length := by
      unfold ixN
      rw [if_neg (by decide), if_pos (by simp; omega)]
      simp
      omega
    unfold atI
    rw [hx]
    simp
  have e2 : ixD (.lst ((ns ++ [x]).map D.int)) (.int (-1)) = some (.int x) := e
  show (W.bind (W.bind (W.calm (gIx (.lst ((ns ++ [x]).map D.int)) (.int (-1)))) fun a => W.calm (gEq false a (.int 0))) asB) = _
  unfold gIx
  rw [e2]
  show (W.bind (W.calm (gEq false (.int x) (.int 0))) asB) = _
  unfold gEq
  rw [deq_int]
  cases (x == 0) <;> rfl
theorem bind_ret {ε α β : Type} (a : α) (k : α → W ε β) : W.bind (W.ret a) k = k a := rfl
def tD0 (K : PySem.W.Frag) : TE := tOp (rIxL K) (tVar 0) (tC (.int 0))
def mQ : Ro → W Ex D := mOp gFdiv (mVar 2) (mVar 1)
def mR : Ro → W Ex (Bool × D) := mDr (mOp gMod (mDe (mBlt (g1 intD) (mCons (mVar 2) mNil))) (mVar 1))
def mA : Ro → W Ex D := mOp gMod (mDe (mBlt (g1 intD) (mCons (mDe (mOpR gAdd (mOp gMul (mOp gIx (mVar 0) (mC (.int 1))) (mC (.int 48271))) (mC (.int 37)))) mNil))) (mC (.int 2147483647))
def mZ : Ro → W Ex (Bool × D) := mDr (mOp gMod (mDe (mBlt (g1 intD) (mCons (mOp gFdiv (mOp gIx (mVar 0) (mC (.int 1))) (mC (.int 8))) mNil))) (mVar 1))
def tDraw (G : Wd) (K : PySem.W.Frag) (Wx : WX) : TS :=
  tSeq (tWhile (tT G Wx (mAnd c0 c1)) (tDrop (tBM0 K "list" rPop (tD0 K)))) (tSeq (tIfS (tT G Wx c0) (tSeq (tAsg (tBM0 K "list" rPop (tD0 K)) (gName 2)) (tSeq (tDrop (tBM K "list" rAppend (tD0 K) (tCons (tE G Wx mQ) tNil))) (tRet (tR G Wx mR)))) tNext)
    (tSeq (tAsg (tE G Wx mA) (L2.gSub (tVar 0) (tC (.int 1)) rSetL)) (tRet (tR G Wx mZ))))
section
variable {G : Wd} {K : PySem.W.Frag} {Wx : WX} {H H' : Hp} {a b : Addr} {ns : List Int} {m k : Int} {σ : Fb.St}
theorem BoxIn.er (x : BoxIn G H a b H' ns m) (h0 : σ[0]? = some (some (.ref a))) (h1 : σ[1]? = some (some (.int k))) : ERel G NT H' σ [some (boxD ns m), some (.int k)] := ⟨x.tb, fun i d e => by
  match i, e with
  | 0, e => cases e; exact ⟨_, h0, x.rep⟩
  | 1, e => cases e; exact ⟨_, h1, rfl⟩⟩
theorem BoxIn.er3 {r : Int} (x : BoxIn G H a b H' ns m) (h0 : σ[0]? = some (some (.ref a))) (h1 : σ[1]? = some (some (.int k))) (h2 : σ[2]? = some (some (.int r))) : ERel G NT H' σ [some (boxD ns m), some (.int k), some (.int r)] := ⟨x.tb, fun i d e => by
  match i, e with
  | 0, e => cases e; exact ⟨_, h0, x.rep⟩
  | 1, e => cases e; exact ⟨_, h1, rfl⟩
  | 2, e => cases e; exact ⟨_, h2, rfl⟩⟩
theorem BoxIn.d0 {Q : VK} (x : BoxIn G H a b H' ns m) (h0 : σ[0]? = some (some (.ref a))) (q : Q (.ref b) H') : tD0 K σ H' Q := ⟨_, h0, a, _, 0, .ref b, rfl, rfl, .of x.ha, rfl, q⟩
theorem tE_ret {N : Addr → Prop} {ρ : Ro} {me : Ro → W Ex D} {d : D} {Q : VK} (er : ERel G N H σ ρ) (e : me ρ = W.ret d) (h : ∀ v H', Same G H H' → Rep G (Fr N H) H' d v → Q v H') : tE G Wx me σ H Q := ⟨N, ρ, er, by rw [e]; exact h⟩
theorem tR_ret {N : Addr → Prop} {ρ : Ro} {me : Ro → W Ex (Bool × D)} {d : Bool × D} {Q : VK} (er : ERel G N H σ ρ) (e : me ρ = W.ret d) (h : ∀ v H', Same G H H' → Rep G (Fr N H) H' d.2 v → Q v H') : tR G Wx me σ H Q := ⟨N, ρ, er, by rw [e]; exact fun v H' s r _ => h v H' s r⟩
theorem tT_ret {N : Addr → Prop} {ρ : Ro} {me : Ro → W Ex Bool} {t : Bool} {Q : Bool → Hp → Prop} (er : ERel G N H σ ρ) (e : me ρ = W.ret t) (h : ∀ H', Same G H H' → Q t H') : tT G Wx me σ H Q := ⟨N, ρ, er, by rw [e]; exact h⟩
theorem snoc_of : ∀ ns : List Int, ns = [] ∨ ∃ l x, ns = l ++ [x] := fun ns => by
  rcases List.eq_nil_or_concat ns with h | ⟨l, x, h⟩
  · exact .inl h
  · exact .inr ⟨l, x, by simpa using h⟩
theorem evQ {bd : Option D} {r : Int} (h1 : 0 < k) (h2 : k < 1000000) : mQ [bd, some (.int k), some (.int r)] = W.ret (.int (r / k)) := by
  show W.calm (if 0 < k ∧ k < 1073741824 then W.ret (D.int (r / k)) else W.fail) = _
  rw [if_pos ⟨h1, by omega⟩]
  rfl
theorem evR {bd : Option D} {r : Int} (h1 : 0 < k) : mR [bd, some (.int k), some (.int r)] = W.ret (false, .int (r % k)) := by
  show (W.bind (W.calm (if 0 < k then W.ret (D.int (r % k)) else W.fail)) fun d => W.ret (false, d)) = _
  rw [if_pos h1]
  rfl
theorem evA {r : Ro} : ∃ m', mA (some (boxD ns m) :: r) = W.ret (.int m') := by
  refine ⟨(m * 48271 + 37) % 2147483647, ?_⟩
  have e1 : gMul (.int m) (.int 48271) = W.ret (.int (m * 48271)) := by
    show (if (-(2 ^ 64) < m ∧ m < 2 ^ 64) ∨ (-(2 ^ 64) < (48271 : Int) ∧ (48271 : Int) < 2 ^ 64) then W.ret (D.int (m * 48271)) else W.fail) = _
    rw [if_pos (.inr (by decide))]
  show (W.bind (W.bind (W.bind (W.bind (W.calm (gMul (.int m) (.int 48271))) fun a => W.bind (W.calm (gAdd a (.int 37))) fun r => W.ret r.2) fun d => W.calm (g1 intD [d])) fun r => W.ret r.2) fun a => W.calm (gMod a (.int 2147483647))) = _
  rw [e1]
  rfl
theorem evZ (h1 : 0 < k) : mZ [some (boxD ns m), some (.int k)] = W.ret (false, .int ((m / 8) % k)) := by
  show (W.bind (W.bind (W.bind (W.calm (gFdiv (.int m) (.int 8))) fun d => W.bind (W.calm (g1 intD [d])) fun r => W.ret r.2) fun a => W.calm (gMod a (.int k))) fun d => W.ret (false, d)) = _
  have e1 : gFdiv (.int m) (.int 8) = W.ret (.int (m / 8)) := rfl
  rw [e1]
  show (W.bind (W.calm (if 0 < k then W.ret (D.int ((m / 8) % k)) else W.fail)) fun d => W.ret (false, d)) = _
  rw [if_pos h1]
  rfl
theorem draw_read {D' : Ends} {σ : Fb.St} (hk : 0 < k) (hk2 : k < 1000000) (h0 : σ[0]? = some (some (.ref a))) (h1 : σ[1]? = some (some (.int k))) (h2 : 2 < σ.length) (x : BoxIn G H a b H' ns m)
    (q : ∀ (r : Int) ns' m' H'', 0 ≤ r → r < k → BoxIn G H a b H'' ns' m' → D'.rt (.int r) H'') : tDraw G K Wx D' σ H' := by
  refine ⟨fun n σ H' => ∃ ns m, BoxIn G H a b H' ns m ∧ n = ns.length ∧ σ[0]? = some (some (.ref a)) ∧ σ[1]? = some (some (.int k)) ∧ 2 < σ.length, ⟨_, ns, m, x, rfl, h0, h1, h2⟩, ?_⟩
  rintro n σ1 H1 ⟨ns1, m1, x1, rfl, g0, g1, g2⟩
  have er := x1.er (G := G) g0 g1
  -- what follows the loop
  have rest : ∀ H2, BoxIn G H a b H2 ns1 m1 → (tSeq (tIfS (tT G Wx c0) (tSeq (tAsg (tBM0 K "list" rPop (tD0 K)) (gName 2)) (tSeq (tDrop (tBM K "list" rAppend (tD0 K) (tCons (tE G Wx mQ) tNil))) (tRet (tR G Wx mR)))) tNext)
    (tSeq (tAsg (tE G Wx mA) (L2.gSub (tVar 0) (tC (.int 1)) rSetL)) (tRet (tR G Wx mZ)))) D' σ1 H2 := fun H2 x2 => by
    refine tT_ret (x2.er (G := G) g0 g1) (ev0 ns1 m1 _) fun H3 s3 => ?_
    have x3 := x2.step s3
    rcases snoc_of ns1 with rfl | ⟨l, y, rfl⟩
    · -- the number moves on
      obtain ⟨m', e⟩ := evA (ns := []) (m := m1) (r := [some (.int k)])
      refine tE_ret (x3.er (G := G) g0 g1) e fun v H4 s4 r4 => ?_
      have x4 := x3.step s4
      obtain rfl : v = .int m' := r4
      refine ⟨_, g0, a, _, 1, 1, rfl, rfl, x4.ha, rfl, ?_⟩
      have x5 := x4.setA (m' := m')
      refine tR_ret (x5.er (G := G) g0 g1) (evZ hk) fun v H6 s6 r6 => ?_
      obtain rfl : v = .int ((m' / 8) % k) := r6
      exact q _ _ _ _ (Int.emod_nonneg _ (by omega)) (Int.emod_lt_of_pos _ hk) (x5.step s6)
    · -- a cell is drawn from
      have hne : (!(l ++ [y]).isEmpty) = true := by cases l <;> rfl
      show (if (!(l ++ [y]).isEmpty) = true then _ else _)
      rw [if_pos hne]
      refine x3.d0 g0 ⟨.inl ⟨rfl, _, .of x3.hb⟩, b, _, .int y, rfl, rfl, x3.hb, by simp, ?_⟩
      have hl : l.length ≤ 100 := by have := x3.len; simp at this; omega
      have x4 : BoxIn G H a b (upd H3 b (.lst (l.map V.int))) l m1 := x3.setB hl
      have e4 : ((l ++ [y]).map V.int).dropLast = l.map V.int := by simp
      rw [e4]
      have f0 : (σ1.set 2 (some (V.int y)))[0]? = some (some (.ref a)) := by rw [List.getElem?_set_ne (by decide)]; exact g0
      have f1 : (σ1.set 2 (some (V.int y)))[1]? = some (some (.int k)) := by rw [List.getElem?_set_ne (by decide)]; exact g1
      have f2 : (σ1.set 2 (some (V.int y)))[2]? = some (some (.int y)) := List.getElem?_set_self g2
      refine x4.d0 f0 ⟨.inl ⟨rfl, _, .of x4.hb⟩, tE_ret (x4.er3 (G := G) f0 f1 f2) (evQ hk hk2) fun v H5 s5 r5 => ?_⟩
      have x5 := x4.step s5
      obtain rfl : v = .int (y / k) := r5
      refine ⟨b, _, .int (y / k), rfl, rfl, x5.hb, by rw [List.length_map, sizeLine_eq]; omega, ?_⟩
      have x6 : BoxIn G H a b (upd H5 b (.lst ((l ++ [y / k]).map V.int))) (l ++ [y / k]) m1 := x5.setB (by have := x3.len; simpa using this)
      have e6 : l.map V.int ++ [V.int (y / k)] = (l ++ [y / k]).map V.int := by simp
      rw [e6]
      refine tR_ret (x6.er3 (G := G) f0 f1 f2) (evR hk) fun v H7 s7 r7 => ?_
      obtain rfl : v = .int (y % k) := r7
      exact q _ _ _ _ (Int.emod_nonneg _ (by omega)) (Int.emod_lt_of_pos _ hk) (x6.step s7)
  rcases snoc_of ns1 with rfl | ⟨l, y, rfl⟩
  · refine tT_ret (t := false) er (by show W.bind (c0 _) _ = _; rw [ev0]; rfl) fun H2 s2 => ?_
    exact rest H2 (x1.step s2)
  · have hne : (!(l ++ [y]).isEmpty) = true := by cases l <;> rfl
    refine tT_ret (t := (y == 0)) er (by show W.bind (c0 _) _ = _; rw [ev0, hne, bind_ret, if_pos rfl, ev1 l y m1 _ x1.len]) fun H2 s2 => ?_
    have x2 := x1.step s2
    by_cases hy : (y == 0) = true
    · rw [if_pos hy]
      refine ⟨fun σ' H' => ∃ ns m, BoxIn G H a b H' ns m ∧ ns.length = l.length ∧ σ'[0]? = some (some (.ref a)) ∧ σ'[1]? = some (some (.int k)) ∧ 2 < σ'.length, fun σ' H' ⟨ns, m, w1, w2, w3⟩ => ⟨l.length, by simp, ns, m, w1, w2.symm, w3⟩, ?_⟩
      refine x2.d0 g0 ⟨.inl ⟨rfl, _, .of x2.hb⟩, b, _, .int y, rfl, rfl, x2.hb, by simp, ?_⟩
      have e4 : ((l ++ [y]).map V.int).dropLast = l.map V.int := by simp
      rw [e4]
      exact ⟨l, m1, x2.setB (by have := x2.len; simp at this; omega), rfl, g0, g1, g2⟩
    · rw [if_neg hy]
      exact rest H2 x2
variable {P : Program} {w : World} {base : Heap} {kk : Nat}
/-- a def by what its body does at once -/
theorem fnd_raw {f : Addr} {x qual : Str} {st : Stmt} {fd : FuncData} {Ns ps : List Str} {sem : List D → Rt} (F : Fun G.K x qual st f fd) (S : FnScope Ns ps (defScope st)) (hm : ∀ ds, W.Mono (sem ds))
    (body : ∀ (cdv : Value) (A : Around) (outer : List Env) (s : Shared) (H : Hp) (E : XK) (vs : List V) (ds : List D) (N : Addr → Prop) (Q : VK), Cz P w G base kk (cxD P w G base Ns qual (defScope st) f cdv A outer s H E) (wxD E) → TabsG G H → Reps G N H ds vs → vs.length = ps.length →
      sem ds (PoR G N H Q) (fun x => ∀ c dd H', Same G H H' → XRep G (Fr N H) H' x c dd → E c dd H') →
      ∃ t, PSs (cxD P w G base Ns qual (defScope st) f cdv A outer s H E) (defBody st) t ∧ t { nx := fun _ H' => Q .non H', rt := Q } (L2.start Ns vs) H) : FnD P w G base (kk + 1) f fd ps sem := by
  obtain ⟨oc, od, kV, doc, pm, an, cdv, ct, osl, rfl, lk, hcd⟩ := F.ex
  refine ⟨fun A outer s H args us vs ds N Q E hr hg e0 tb hb rv rd hl q => ?_, hm⟩
  exact LamX.run_ofS lk hcd S hr e0 hb rv hl fun hr' => body cdv A outer s H E vs ds N Q (cz_of hr' hg) tb rd hl q
end
def sem__law_draw : List D → Rt
  | [.box 0, .int m] => fun Q _ => 0 < m ∧ m < 1000000 ∧ ∀ r : Int, 0 ≤ r → r < m → Q (false, .int r)
  | _ => W.fail
theorem sem_draw_inv {ds : List D} {Q : Bool × D → Prop} {E : Ex → Prop} (h : sem__law_draw ds Q E) : ∃ m, ds = [.box 0, .int m] ∧ 0 < m ∧ m < 1000000 ∧ ∀ r : Int, 0 ≤ r → r < m → Q (false, .int r) := by
  unfold sem__law_draw at h
  split at h
  · exact ⟨_, rfl, h⟩
  · exact h.elim
theorem sem_draw_mono (ds : List D) : W.Mono (sem__law_draw ds) := by
  unfold sem__law_draw
  split
  · exact ⟨fun f _ ⟨h1, h2, h3⟩ => ⟨h1, h2, fun r h4 h5 => f _ (h3 r h4 h5)⟩⟩
  · exact W.Mono.fail
theorem fnd_draw {P : Program} {w : World} {G : Wd} {base : Heap} {kk : Nat} {f : Addr} {x qual : Str} {st : Stmt} {fd : FuncData} {p1 p2 p3 : Str} (F : Fun G.K x qual st f fd) (S : FnScope [p1, p2, p3] [p1, p2] (defScope st))
    (body : ∀ (cdv : Value) (A : Around) (outer : List Env) (s : Shared) (H : Hp) (E : XK), Cz P w G base kk (cxD P w G base [p1, p2, p3] qual (defScope st) f cdv A outer s H E) (wxD E) →
      PSs (cxD P w G base [p1, p2, p3] qual (defScope st) f cdv A outer s H E) (defBody st) (tDraw G G.K (wxD E))) : FnD P w G base (kk + 1) f fd [p1, p2] sem__law_draw := by
  refine fnd_raw F S sem_draw_mono fun cdv A outer s H E vs ds N Q Z tb rd hl q => ?_
  obtain ⟨m, rfl, h1, h2, q⟩ := sem_draw_inv q
  obtain ⟨v, u, rfl, ⟨a, rfl, hx⟩, r2⟩ := rd.two_inv
  obtain rfl : u = .int m := r2
  obtain ⟨b, ne, ha, hb⟩ := (show ∃ b, a ≠ b ∧ H a = some (.ext (boxA a b)) ∧ H b = some (.ext (boxB b)) from hx)
  refine ⟨_, pss_box G (a := a) (b := b) (body cdv A outer s H E Z), tb, ne, ha, hb, fun ns m' H1 x1 => draw_read h1 h2 rfl rfl (by show 2 < 3; decide) x1 fun r ns' m'' H2 g1 g2 x2 => ⟨ns', m'', x2, ?_⟩⟩
  exact q r g1 g2 _ _ (x2.same ha hb) rfl fun z => nomatch z
end Fb
end

section
set_option Elab.async false
set_option linter.all false
set_option maxRecDepth 100000
set_option maxHeartbeats 4000000
/-! x.append(y.pop(e)) -/
namespace Fb
open PySem PySem.Spec PyProof.Rows L2
def asI : D → Option Int
  | .int i => some i
  | _ => none
theorem asI_inv {d : D} {i : Int} (h : asI d = some i) : d = .int i := by
  cases d <;> first | (cases h; done) | skip
  cases h; rfl
def mAppPop (i j : Nat) (m : Ro → W Ex D) : En → WS := fun ρ => W.got (slotL ρ[i]?) fun fs => W.got (slotL ρ[j]?) fun os => if i = j then W.fail else
  W.bind (up ρ (m (ro ρ))) fun d => W.got (asI d) fun z => if 0 ≤ z ∧ z < os.length ∧ os.length ≤ sizeLine ∧ fs.length < sizeLine then W.got os[z.toNat]? fun y => W.ret (.nx, (ρ.set j (some (true, .lst (os.eraseIdx z.toNat)))).set i (some (true, .lst (fs ++ [y])))) else W.fail
theorem ite_fail {ε α : Type} {c : Prop} [Decidable c] {m : W ε α} {Q : α → Prop} {E : ε → Prop} (h : (if c then W.fail else m) Q E) : ¬ c ∧ m Q E := by
  by_cases hc : c
  · rw [if_pos hc] at h; exact h.elim
  · rw [if_neg hc] at h; exact ⟨hc, h⟩
theorem Reps.erase {G : Wd} {N : Addr → Prop} {H : Hp} : ∀ {ds : List D} {vs : List V} (n : Nat), Reps G N H ds vs → Reps G N H (ds.eraseIdx n) (vs.eraseIdx n)
  | [], _, n, h => by rw [show _ = [] from h]; exact rfl
  | _ :: _, _, 0, ⟨w, ws, e, r, rs⟩ => by subst e; exact rs
  | _ :: _, _, n + 1, ⟨w, ws, e, r, rs⟩ => by subst e; exact ⟨w, _, rfl, r, Reps.erase n rs⟩
section
variable {G : Wd} {X : Cx} {Wx : WX}
theorem ds_appPop {i j : Nat} {x y : Str} {e : Expr} {m : Ro → W Ex D} {p q apos cpos apos2 cpos2 pos : Pos} (hv : PE X (.Name x p) (tVar i)) (hw : PE X (.Name y q) (tVar j)) (he : DE G X Wx e m)
    (hs : swapsWith (.Call (.Attribute (.Name x p) "append" apos) [.Call (.Attribute (.Name y q) "pop" apos2) [e] [] cpos2] [] cpos) none pos.line X.env = pure false := by rfl)
    (hbase : attributeBase (.Name x p) "append" X.env (eval (.Name x p) X.env) = eval (.Name x p) X.env := by rfl)
    (hfew : ((backTo cpos (starEach [.Call (.Attribute (.Name y q) "pop" apos2) [e] [] cpos2] X.env)).all (fun x => !x.1) && (backToKw cpos (keywordEach [] X.env)).all (fun x => x.1.isSome)
      && decide (([.Call (.Attribute (.Name y q) "pop" apos2) [e] [] cpos2] : List Expr).length + ([] : List Keyword).length + (if ([] : List Keyword).isEmpty then 0 else 1) < 30)) = true := by rfl)
    (hline : (apos.endLine == cpos.line) = true := by rfl) (hst : starEach [.Call (.Attribute (.Name y q) "pop" apos2) [e] [] cpos2] X.env = (false, eval (.Call (.Attribute (.Name y q) "pop" apos2) [e] [] cpos2) X.env) :: starEach [] X.env := by rfl) (hplain : (backTo cpos (starEach [] X.env)).any (·.1) = false := by rfl)
    (hbase2 : attributeBase (.Name y q) "pop" X.env (eval (.Name y q) X.env) = eval (.Name y q) X.env := by rfl)
    (hfew2 : ((backTo cpos2 (starEach [e] X.env)).all (fun x => !x.1) && (backToKw cpos2 (keywordEach [] X.env)).all (fun x => x.1.isSome)
      && decide (([e] : List Expr).length + ([] : List Keyword).length + (if ([] : List Keyword).isEmpty then 0 else 1) < 30)) = true := by rfl)
    (hline2 : (apos2.endLine == cpos2.line) = true := by rfl) (hst2 : starEach [e] X.env = (false, eval e X.env) :: starEach [] X.env := by rfl) (hplain2 : (backTo cpos2 (starEach [] X.env)).any (·.1) = false := by rfl) :
    DS G X Wx (.Expr (.Call (.Attribute (.Name x p) "append" apos) [.Call (.Attribute (.Name y q) "pop" apos2) [e] [] cpos2] [] cpos) pos) (mAppPop i j m) := by
  have inner := pe_bm PySem.F.plainAttrs_list PySem.F.slot_list_pop PySem.F.type_list_pop mt_popAt hw (pa_cons he.pe pa_nil hst2) hbase2 hfew2 hline2 hst2 hplain2
  refine DS.imp (fun ρ => got_mono fun fs => got_mono fun os => ite_mono W.Mono.fail ((Mono.up (he.mono _)).bind fun d => got_mono fun _ => ite_mono (got_mono fun _ => W.Mono.ret) W.Mono.fail)) (ps_expr (pe_bm PySem.F.plainAttrs_list PySem.F.slot_list_append PySem.F.type_list_append mt_append hv (pa_cons inner pa_nil hst) hbase hfew hline hst hplain) hs) fun H0 N0 ρ σ H D' r q => ?_
  obtain ⟨S, o⟩ := r.own
  obtain ⟨fs, hfs, q⟩ := got_inv q
  obtain ⟨os, hos, q⟩ := got_inv q
  obtain ⟨hij, q⟩ := ite_fail q
  have hfs := slotL_inv hfs
  have hos := slotL_inv hos
  obtain ⟨a, ea, aS, vs, hvs, _⟩ := o.own i _ hfs
  obtain ⟨b, eb, bS, ws, hws, _⟩ := o.own j _ hos
  have hab : a ≠ b := fun z => hij (o.inj i j a aS (z ▸ bS))
  refine ⟨.ref a, ea, .inl ⟨rfl, vs, .of hvs⟩, .ref b, eb, .inl ⟨rfl, ws, .of hws⟩, he.inS r q fun d v H1 z r1 s1 rv => ?_⟩
  obtain ⟨n, hn, z2⟩ := got_inv z
  obtain ⟨⟨n0, n1, n2, n3⟩, z3⟩ := ite_ret z2
  obtain ⟨yd, hy, z4⟩ := got_inv z3
  rw [asI_inv hn] at rv
  obtain rfl : v = .int n := rv
  have o1 := o.same s1
  obtain ⟨a', ea', aS', vs', hvs', rvs⟩ := o1.own i _ hfs
  obtain ⟨b', eb', bS', ws', hws', rws⟩ := o1.own j _ hos
  rw [ea] at ea'
  rw [eb] at eb'
  cases ea'
  cases eb'
  obtain ⟨yv, hyv, ryv⟩ := rws.get' hy
  have hlw : ws'.length = os.length := rws.length
  have h63 := line63
  refine ⟨b, ws', n, n.toNat, yv, rfl, rfl, hws', by omega, by omega, by rw [hlw]; exact seqIndex_of n0 n1, hyv, ?_⟩
  have lx : LeX (Out N0 H0 S) H1 (upd H1 b (.lst (ws'.eraseIdx n.toNat))) := LeX.upd hws' trivial (Out.notS bS)
  have o2 := o1.mut hos bS (u := .lst (ws'.eraseIdx n.toNat)) (d' := .lst (os.eraseIdx n.toNat)) ⟨_, upd_same, (rws.erase _).monoX (fun _ n _ => n) lx⟩
  have hfs2 : (ρ.set j (some (true, .lst (os.eraseIdx n.toNat))))[i]? = some (some (true, .lst fs)) := by rw [List.getElem?_set_ne (Ne.symm hij)]; exact hfs
  have ha2 : upd H1 b (.lst (ws'.eraseIdx n.toNat)) a = some (.lst vs') := by rw [upd_ne hab]; exact hvs'
  refine ⟨a, vs', yv, rfl, rfl, ha2, by rw [rvs.length]; exact n3, ?_⟩
  have lx2 : LeX (Out N0 H0 S) (upd H1 b (.lst (ws'.eraseIdx n.toNat))) (upd (upd H1 b (.lst (ws'.eraseIdx n.toNat))) a (.lst (vs' ++ [yv]))) := LeX.upd ha2 trivial (Out.notS aS)
  have o3 := o2.mut hfs2 aS (u := .lst (vs' ++ [yv])) (d' := .lst (fs ++ [yd])) ⟨_, upd_same, ((rvs.app (.one ryv)).monoX (fun _ n _ => n) lx).monoX (fun _ n _ => n) lx2⟩
  exact z4 _ _ ⟨SRel.upd (SRel.upd (r.same.trans s1) o1 bS) o2 aS, by rw [List.length_set, List.length_set]; exact r.len, S, o3⟩
end
end Fb
end

section
set_option Elab.async false
set_option linter.all false
set_option maxRecDepth 100000
set_option maxHeartbeats 4000000
/-! The end: a law's def called on the script; tables of code objects, empty at first. -/
namespace Fb
open PySem PySem.Spec PyProof.Rows L2
/-- a def's code object, its table (empty), the name of what comes into it -/
structure Tb where
  c : Addr
  P : Addr
  q : Str
abbrev tabsOf (T : List Tb) : List (Addr × Str) := T.map fun t => (t.P, t.q)
structure TbOk (K : PySem.W.Frag) (h : Heap) (t : Tb) : Prop where
  emp : h.get? t.P = some { cls := .none, data := .fields #[] }
  out : K.lookup t.P = none
  hd : PySem.W.CodeHd h t.c t.P
def MainB (mg : Str → Option Value) (h : Heap) : Prop := ∃ (bm : Addr) (ob : Obj), mg "__builtins__" = some (.ref bm) ∧ bm ≠ builtinsNs ∧ h.get? bm = some ob ∧ ob.cls = .type "module" ∧ ob.dict = some builtinsNs ∧ ob.data = .plain
def OnlyT (ts : List Tb) (H : Hp) : Prop := ∀ b, H b = none ∨ (∃ t ∈ ts, b = t.P) ∨ ∃ o xs, H b = some (.frz o (.lst xs))
/-- the call of the law at an abstract heap H in which nothing but the script and the tables may stand -/
theorem end_core {P : Program} {w : World} {K : PySem.W.Frag} {mg mb : Str → Option Value} {k : Nat} {fa a : Addr} {fd : FuncData} {x : Str} {sem : List D → Rt} {s₁ : Shared} {vs : List Value} {ns : List Int} {H : Hp} {ts : List Tb}
    (KX : K.In s₁.heap) (hns : s₁.heap.Ns mainGlobals mg) (hb : s₁.heap.Ns builtinsNs mb) (hbb : ∀ x : Str, x ≠ "__name__" → mb x = bootBuiltins x) (hlim : s₁.heap.NoLimit) (hg : s₁.gens = #[]) (hT : ∀ t ∈ ts, TbOk K s₁.heap t) (hM : MainB mg s₁.heap)
    (ha : s₁.heap.get? a = some { cls := .type "list", data := .seq vs.toArray }) (hr : Room k callerA)
    (F : ∀ base : Heap, K.In base → base.Ns mainGlobals mg → (∀ t ∈ ts, LamX.TabB base mg t.c t.P) → FnD P w ⟨K, mg, tabsOf ts⟩ base k fa fd [x] sem) (hbind : ∀ (s : Shared) (u : Value), BindsTo s fd ⟨[u], []⟩ [(x, u)])
    (hsem : sem [.scr ns] (fun r => r.2 = .bl true) fun _ => False) (hH : ∀ t ∈ ts, H t.P = some (.tbl #[])) (hO : OnlyT ts H) (hS : ScrAt K H a ns) (hok : HOk P w H s₁.heap) (hA : ∀ b, H b ≠ none → b = a ∨ ∃ t ∈ ts, b = t.P) (hK : H a ≠ none → K.lookup a = none) :
    codeAny (model P w) callerA (.call (.ref fa) ⟨[.ref a], []⟩) (fun r s' => r = .ok (.ret (.bool true)) ∧ OldK s₁.heap s'.heap ∧ s'.os = s₁.os ∧ AllBare s'.gens) s₁ := by
  have hid : ∀ {b : Addr} {o : Obj}, s₁.heap.get? b = some o → H b = none → (hidT s₁.heap H).get? b = some o := fun e n => hidT_get e n
  have isA : ∀ {b : Addr} {u : HO}, H b = some u → b = a ∨ ∃ t ∈ ts, b = t.P := fun {b u} q => hA b fun z => by rw [q] at z; cases z
  have clear : ∀ {b : Addr} {o : Obj}, s₁.heap.get? b = some o → (∀ xs n, o.data = .seq xs n → False) → (o.data = .fields #[] → False) → H b = none := fun {b o} e h1 h2 => by
    rcases q : H b with _ | u
    · rfl
    · rcases isA q with rfl | ⟨t, ht, rfl⟩
      · rw [ha] at e; cases e; exact (h1 _ _ rfl).elim
      · rw [(hT t ht).emp] at e; cases e; exact (h2 rfl).elim
  have dicts : ∀ {b : Addr} {o : Obj} {es : Array DictEntry} {ep : Nat}, s₁.heap.get? b = some o → o.data = .dict es ep → H b = none := fun {b o es ep} e d => clear e (fun xs n z => by rw [d] at z; cases z) fun z => by rw [d] at z; cases z
  have names : ∀ {b : Addr} {m : Str → Option Value}, s₁.heap.Ns b m → (hidT s₁.heap H).Ns b m := fun {b m} h => by
    obtain ⟨o, es, ep, e, d, r⟩ := h
    exact ⟨o, es, ep, hid e (dicts e d), d, r⟩
  have kin : K.In (hidT s₁.heap H) := fun b o e => by
    refine hid (KX b o e) ?_
    rcases q : H b with _ | u
    · rfl
    · rcases isA q with rfl | ⟨t, ht, rfl⟩
      · rw [hK (by rw [q]; exact fun z => nomatch z)] at e; cases e
      · rw [(hT t ht).out] at e; cases e
  obtain ⟨mc, l1, l2⟩ := hlim
  have md : Mod K mg (hidT s₁.heap H) := ⟨kin, names hns, ⟨mb, names hb, hbb⟩, mc, names l1, l2⟩
  have tbs : ∀ t ∈ ts, LamX.TabB (hidT s₁.heap H) mg t.c t.P := fun t ht => by
    have ok := hT t ht
    refine ⟨?_, ?_, fun z => ?_⟩
    · obtain ⟨o, us, file, tf, flags, tg, inF, text, tt, e1, r1, r2, r3, r⟩ := ok.hd
      refine ⟨o, us, file, tf, flags, tg, inF, text, tt, hid e1 (clear e1 (fun xs n z => by rw [r2] at z; cases z) fun z => ?_), r1, r2, r3, r⟩
      rw [r2] at z
      cases z
      cases r3
    · obtain ⟨bm, ob, b1, b2, b3, b4, b5, b6⟩ := hM
      refine ⟨bm, ob, b1, b2, fun q => ?_, fun q => ?_, hid b3 (clear b3 (fun xs n z => by rw [b6] at z; cases z) fun z => by rw [b6] at z; cases z), b4, b5, b6⟩
      · obtain ⟨o, es, ep, e, d, _⟩ := hns
        rw [q, e] at b3; cases b3
        rw [d] at b6; cases b6
      · rw [q, ok.emp] at b3; cases b3; cases b6
    · obtain ⟨o, es, ep, e, d, _⟩ := hns
      rw [z, ok.emp] at e; cases e; cases d
  have e0 : Env0 P w K mg (hidT s₁.heap H) callerA [] s₁ H := ⟨rfl, md, fun b o e => of_hidT e, Nat.le_of_eq (hidT_size _ _), trivial, fun b z => (nomatch z), hok, .of_eq hg⟩
  have FF := F _ kin (names hns) tbs
  have tb : TabsG ⟨K, mg, tabsOf ts⟩ H := fun p hp => by
    obtain ⟨t, ht, rfl⟩ := List.mem_map.mp hp
    exact LamX.TabS.nil (hH t ht)
  refine codeAny_mono (FF.run callerA [] s₁ H ⟨[.ref a], []⟩ [.ref a] [.ref a] [.scr ns] NT (fun v _ => v = .bl true) (fun _ _ _ => False) hr rfl e0 tb (hbind s₁ (.ref a)) (.cons rfl .nil) (.one ⟨a, rfl, hS⟩) rfl
    ((FF.mono _).run (fun r z v H' s' r' _ => by rw [z] at r'; exact r') (fun _ z => z.elim) hsem)) fun r s' h => ?_
  cases r with
  | error e => exact (cx_never h).elim
  | ok fl =>
    cases fl with
    | ret u =>
      obtain ⟨v, H', os, bare, un, hok', r', q⟩ := h
      cases (show v = .bl true from q)
      cases (show u = Value.bool true from r')
      have grown : ∀ t ∈ ts, ∃ more : Array Value, s'.heap.get? t.P = some { cls := .none, data := .fields more } := fun t ht => by
        obtain ⟨more, z⟩ := un.tbls t.P #[] (hH t ht)
        exact ⟨_, hok' t.P _ z⟩
      have same : ∀ b o, (¬ ∃ t ∈ ts, b = t.P) → s₁.heap.get? b = some o → s'.heap.get? b = some o := fun b o nt e => by
        rcases hO b with z | z | ⟨ob, xs, z⟩
        · exact un.keep b o e z (fun y => nomatch y) fun y => nomatch y
        · exact absurd z nt
        · have e1 := (show ObjOk P w H s₁.heap b (.frz ob (.lst xs)) from hok b _ z).1
          have e2 := (show ObjOk P w H' s'.heap b (.frz ob (.lst xs)) from hok' b _ (un.frzs b ob _ z)).1
          rw [e] at e1
          cases e1
          exact e2
      refine ⟨rfl, ⟨fun b o e => ?_, fun b o e => ?_⟩, os, bare⟩
      · by_cases c : ∃ t ∈ ts, b = t.P
        · obtain ⟨t, ht, rfl⟩ := c
          obtain ⟨more, hm⟩ := grown t ht
          have ok := hT t ht
          rw [ok.emp] at e
          cases e
          exact .inr (.inl ⟨(ok.hd.tab ok.emp).isCodeTable, rfl, #[], more, rfl, by rw [Array.empty_append]; exact hm⟩)
        · exact .inl (same b o c e)
      · by_cases c : ∃ t ∈ ts, b = t.P
        · obtain ⟨t, ht, rfl⟩ := c
          obtain ⟨more, hm⟩ := grown t ht
          exact ⟨_, hm⟩
        · exact ⟨o, same b o c e⟩
    | _ => exact False.elim h
open Classical in
theorem end_call {P : Program} {w : World} {K : PySem.W.Frag} {mg mb : Str → Option Value} {k : Nat} {fa a : Addr} {fd : FuncData} {x : Str} {sem : List D → Rt} {s₁ : Shared} {vs : List Value} {ns : List Int} {ts : List Tb}
    (KX : K.In s₁.heap) (hns : s₁.heap.Ns mainGlobals mg) (hb : s₁.heap.Ns builtinsNs mb) (hbb : ∀ x : Str, x ≠ "__name__" → mb x = bootBuiltins x) (hlim : s₁.heap.NoLimit) (hg : s₁.gens = #[]) (hT : ∀ t ∈ ts, TbOk K s₁.heap t) (hM : MainB mg s₁.heap)
    (ha : s₁.heap.get? a = some { cls := .type "list", data := .seq vs.toArray }) (hi : IntsAre vs ns) (hl : ns.length ≤ sizeLine) (hr : Room k callerA)
    (F : ∀ base : Heap, K.In base → base.Ns mainGlobals mg → (∀ t ∈ ts, LamX.TabB base mg t.c t.P) → FnD P w ⟨K, mg, tabsOf ts⟩ base k fa fd [x] sem) (hbind : ∀ (s : Shared) (u : Value), BindsTo s fd ⟨[u], []⟩ [(x, u)])
    (hsem : sem [.scr ns] (fun r => r.2 = .bl true) fun _ => False) :
    codeAny (model P w) callerA (.call (.ref fa) ⟨[.ref a], []⟩) (fun r s' => r = .ok (.ret (.bool true)) ∧ OldK s₁.heap s'.heap ∧ s'.os = s₁.os ∧ AllBare s'.gens) s₁ := by
  have rv := vals_ints hi
  have aT : ∀ t ∈ ts, t.P ≠ a := fun t ht z => by
    have e := (hT t ht).emp
    rw [z, ha] at e
    cases e
  -- the script at a: U, or nothing
  have key : ∀ U : Option HO, (∀ u, U = some u → ∃ o xs, u = .frz o (.lst xs) ∧ ObjOk P w (fun b => if b = a then U else if ∃ t ∈ ts, b = t.P then some (.tbl #[]) else none) s₁.heap a u) →
      ScrAt K (fun b => if b = a then U else if ∃ t ∈ ts, b = t.P then some (.tbl #[]) else none) a ns → (U ≠ none → K.lookup a = none) →
      codeAny (model P w) callerA (.call (.ref fa) ⟨[.ref a], []⟩) (fun r s' => r = .ok (.ret (.bool true)) ∧ OldK s₁.heap s'.heap ∧ s'.os = s₁.os ∧ AllBare s'.gens) s₁ := fun U hU hS hK => by
    refine end_core (ts := ts) KX hns hb hbb hlim hg hT hM ha hr F hbind hsem (fun t ht => ?_) (fun b => ?_) hS (fun b u z => ?_) (fun b z => ?_) (fun z => hK (by simpa using z))
    · show (if t.P = a then U else _) = _
      rw [if_neg (aT t ht), if_pos ⟨t, ht, rfl⟩]
    · by_cases c : b = a
      · rcases e : U with _ | u
        · exact .inl (by rw [if_pos c])
        · obtain ⟨o, xs, rfl, _⟩ := hU u e
          exact .inr (.inr ⟨o, xs, by rw [if_pos c]⟩)
      · by_cases d : ∃ t ∈ ts, b = t.P
        · exact .inr (.inl d)
        · exact .inl (by rw [if_neg c, if_neg d])
    · by_cases c : b = a
      · subst c
        have z : U = some u := by simpa using z
        obtain ⟨o, xs, rfl, h⟩ := hU u z
        exact h
      · by_cases d : ∃ t ∈ ts, b = t.P
        · have z' : some (HO.tbl #[]) = some u := by rw [if_neg c, if_pos d] at z; exact z
          cases z'
          obtain ⟨t, ht, rfl⟩ := d
          exact (hT t ht).emp
        · rw [if_neg c, if_neg d] at z; cases z
    · by_cases c : b = a
      · exact .inl c
      · by_cases d : ∃ t ∈ ts, b = t.P
        · exact .inr d
        · exact absurd (by rw [if_neg c, if_neg d]) z
  rcases hk : K.lookup a with _ | o
  · refine key (some (.frz { cls := .type "list", data := .seq vs.toArray } (.lst (ns.map V.int)))) (fun u e => ?_) (.inl ⟨_, if_pos rfl⟩) fun _ => hk
    cases e
    exact ⟨_, _, rfl, ha, by rw [List.length_map]; exact hl, vs, _, rv, ha⟩
  · have e := KX a o hk
    rw [ha] at e
    cases e
    have hv := rv.length
    rw [List.length_map] at hv
    exact key none (fun u e => nomatch e) (.inr ⟨_, vs.toArray, _, hk, rfl, rfl, rfl, by rw [List.size_toArray]; omega, rv⟩) fun z => absurd rfl z
theorem end_walk {l : PySem.W.OpenLaw} {n k : Nat} {q : Program} {loose : List Str} {XP : (Str → Option Value) → Heap → Prop} {YP : World → Heap → Prop} {d : DefRec} {K : Params → PySem.W.Frag} {x : Str} {sem : List D → Rt} (xs : List Str)
    (hn : l.most = some n) (hn2 : n ≤ sizeLine) (hdf : d.params.defaults = []) (hr : Room k callerA) (hY : ∀ (w : World) (h : Heap), YP w h → (K w.params).In h) (hrec : (xs.all fun x => ((recsOf q).find? (fun e => e.name == x)).isSome) = true)
    (F : ∀ (w : World) (mg : Str → Option Value) (fa : Addr) (h : Heap), (K w.params).In h → h.Ns mainGlobals mg → mg d.name = some (.ref fa) →
      ∃ (fd : FuncData) (ts : List Tb), (∀ t ∈ ts, ∃ x ∈ xs, PySem.W.tabIn (K w.params) x = some (t.c, t.P) ∧ (K w.params).lookup t.P = none) ∧ (∀ (s : Shared) (u : Value), BindsTo s fd ⟨[u], []⟩ [(x, u)]) ∧ ∀ base : Heap, (K w.params).In base → base.Ns mainGlobals mg → (∀ t ∈ ts, LamX.TabB base mg t.c t.P) → FnD l.prog w ⟨K w.params, mg, tabsOf ts⟩ base k fa fd [x] sem)
    (hsem : ∀ ns : List Int, ns.length ≤ n → sem [.scr ns] (fun r => r.2 = .bl true) fun _ => False) :
    PySem.W.WalkO q loose XP YP l.row.toRowW d [] (fun f vs => PySem.call f vs) := by
  refine Att.attach_callB hn hdf fun w s₀ s₁ mg mb fa o pm cd doc a vs ns G Y ho hd hcd hmg hobj hints hlen _ hg => ?_
  obtain ⟨fd, ts, hts, hb, hF⟩ := F w mg fa _ (hY w _ Y) G.T.g hmg
  refine end_call (ts := ts) (hY w _ Y) G.T.g G.T.b G.T.builtins G.T.nolimit hg (fun t ht => ?_) G.T.bmain hobj hints (Nat.le_trans hlen hn2) hr hF hb (hsem ns hlen)
  obtain ⟨x, hx, e, n⟩ := hts t ht
  obtain ⟨d', hd'⟩ := Option.isSome_iff_exists.mp (List.all_eq_true.mp hrec x hx)
  obtain ⟨c1, c2⟩ := PySem.W.tab_of G.T (hY w _ Y) hd' e
  exact ⟨c2, n, c1⟩
end Fb
end

section
set_option Elab.async false
set_option linter.all false
set_option maxRecDepth 100000
set_option maxHeartbeats 4000000
/-! xs[::-1] -/
namespace Fb
open PySem PySem.Spec PyProof.Rows L2
theorem pick_range : ∀ (n : Nat) (l : List Value), l.length = n → (List.range n).filterMap (fun k => l[k]?) = l := by
  intro n
  induction n with
  | zero => intro l h; cases l with
    | nil => rfl
    | cons a r => cases h
  | succ n ih =>
    intro l h
    cases l with
    | nil => cases h
    | cons a r =>
      rw [List.range_succ_eq_map, List.filterMap_cons]
      show a :: _ = _
      rw [List.filterMap_map]
      congr 1
      exact ih r (by simpa using h)
theorem fm_congr {α β : Type} {f g : α → Option β} : ∀ {l : List α}, (∀ x ∈ l, f x = g x) → l.filterMap f = l.filterMap g
  | [], _ => rfl
  | x :: r, h => by
    rw [List.filterMap_cons, List.filterMap_cons, h x List.mem_cons_self, fm_congr fun y hy => h y (List.mem_cons_of_mem _ hy)]
theorem pick_rev (its : List Value) : slicePick its.toArray none none (some (-1)) = its.reverse.toArray := by
  have hb : sliceBounds none none (some (-1)) its.toArray.size = ((its.length : Int) - 1, -1, -1) := by
    simp [sliceBounds]
  unfold slicePick
  rw [hb]
  show ((sliceRange ((its.length : Int) - 1) (-1) (-1)).filterMap (its.toArray[·]?)).toArray = _
  have hr : sliceRange ((its.length : Int) - 1) (-1) (-1) = (List.range its.length).map fun (k : Nat) => its.length - 1 - k := by
    unfold sliceRange
    have hc : (if (-1 : Int) > 0 then (if (its.length : Int) - 1 < -1 then (-1 - ((its.length : Int) - 1) + -1 - 1) / -1 else 0) else (if (its.length : Int) - 1 > -1 then ((its.length : Int) - 1 - -1 - -1 - 1) / (- -1) else 0)).toNat = its.length := by
      rw [if_neg (by decide)]
      by_cases h : (its.length : Int) - 1 > -1
      · rw [if_pos h]
        have : ((its.length : Int) - 1 - -1 - -1 - 1) / (- -1) = its.length := by
          rw [show (- -1 : Int) = 1 from rfl, Int.ediv_one]
          omega
        rw [this]
        rfl
      · rw [if_neg h]
        omega
    show (List.range _).map _ = _
    rw [hc]
    apply List.map_congr_left
    intro k hk
    have := List.mem_range.mp hk
    omega
  rw [hr, List.filterMap_map]
  congr 1
  have : (List.range its.length).filterMap ((its.toArray[·]?) ∘ fun (k : Nat) => its.length - 1 - k) = (List.range its.length).filterMap fun k => its.reverse[k]? := by
    apply fm_congr
    intro k hk
    have h := List.mem_range.mp hk
    show its.toArray[its.length - 1 - k]? = _
    rw [List.getElem?_reverse h]
    simp
  rw [this]
  exact pick_range _ _ (by simp)
section
variable {G : Wd} {X : Cx} {Wx : WX}
theorem pe_rev {e st : Expr} {te : TE} {ts : TO} {p2 pos : Pos} (he : PE X e te) (hs : PO X (some st) ts) : PE X (.Subscript e (.Slice none none (some st) p2) pos) (fun σ H Q => te σ H fun x H1 => ts σ H1 fun o H2 => o = some (-1) ∧ ∃ a xs, x = .ref a ∧ SqL X.K H2 a xs ∧ ∀ p, H2 p = none → Q (.ref p) (upd H2 p (.lst xs.reverse))) := by
  refine ⟨fun pins s σ H Q I h => ?_⟩
  refine Subscript_ (thn (he.run pins s σ H _ I h) fun v s1 ⟨x, H1, I1, r1, q1⟩ => ?_)
  refine wpAny_Slice ?_
  rw [evalPart_none]
  refine wpAny_pure (wpAny_pure (thn (hs.run pins s1 σ H1 _ I1 q1) fun vs s2 ⟨o, H2, I2, po, ho, a, xs, ex, hq, q⟩ => ?_))
  subst ho ex
  cases r1
  have I3 : Inv X pins σ H2 { s2 with heap := s2.heap.push { cls := .type "slice", data := .fields #[.none, .none, vs] } } := I2.kept (t' := s2.toks) fun b ob q => Heap.get?_push_of_some _ q
  obtain ⟨its, r, ht, hz⟩ := I3.list hq
  have hlen := r.length
  refine tail_any (ops := [.ref a, .ref s2.heap.objs.size]) ht.isList.typeIs PySem.F.slot_list_getitem.lookup ?_ (by with_unfolding_all rfl)
  refine wpAny_getItem_list_slice ht.isList (Heap.IsSliceOf.new ..) .none .none po (by decide) ?_ (by rw [List.size_toArray]; omega)
  rw [pick_rev]
  refine ⟨.ref _, _, I3.laid (t' := s2.toks) (o := .lst xs.reverse) (fun b ob q => Heap.get?_push_of_some _ q) (Nat.le_refl _) ?_, rfl, q _ (I3.hok.fresh (Nat.le_refl _))⟩
  exact ⟨by rw [List.length_reverse]; exact hz, its.reverse, 0, r.reverse, Heap.get?_push_size _ rfl⟩
theorem Reps.reverse {N : Addr → Prop} {H : Hp} : ∀ {ds : List D} {vs : List V}, Reps G N H ds vs → Reps G N H ds.reverse vs.reverse
  | [], _, h => by rw [show _ = [] from h]; exact rfl
  | d :: ds, _, ⟨w, ws, e, r, rs⟩ => by
    subst e
    rw [List.reverse_cons, List.reverse_cons]
    exact (Reps.reverse rs).app (.one r)
def mRev (m : Ro → W Ex D) (s : Ro → W Ex (Option Int)) : Ro → W Ex (Bool × D) := fun ρ => W.bind (m ρ) fun d => W.bind (s ρ) fun o => if o = some (-1) then W.got (asL d) fun ds => W.ret (true, .lst ds.reverse) else W.fail
theorem dr_rev {e st : Expr} {m : Ro → W Ex D} {n : Ro → W Ex (Option Int)} {p2 pos : Pos} (he : DE G X Wx e m) (hs : DO G X Wx (some st) n) : DR G X Wx (.Subscript e (.Slice none none (some st) p2) pos) (mRev m n) := by
  refine DR.imp (fun ρ => (he.mono ρ).bind fun d => (hs.mono ρ).bind fun _ => ite_mono (got_mono fun _ => W.Mono.ret) W.Mono.fail) (pe_rev he.pe hs.po) fun N ρ σ H Q r q => ?_
  refine he.go r q (fun x z => z) fun d v H1 z s1 r1 rr1 => ?_
  refine ⟨N, ρ, rr1, (hs.mono ρ).run (fun o z H2 s2 => ?_) (fun x z => z.step s1) z⟩
  obtain ⟨ho, z⟩ := ite_ret z
  obtain ⟨ds, hd, z⟩ := got_inv z
  rw [asL_inv hd] at r1
  obtain ⟨a, vs, rfl, na, ha, rs⟩ := r1
  exact ⟨ho, a, vs, rfl, .of (s2.at ha), fun p hp => new_lst (rs.same s2).reverse (PoR.step (h := z) (s1.trans s2)) p hp⟩
end
end Fb
end

section
set_option Elab.async false
set_option linter.all false
set_option maxRecDepth 100000
set_option maxHeartbeats 4000000
/-! A new box of draws. -/
namespace Fb
open PySem PySem.Spec PyProof.Rows L2
def sem__law_deal : List D → Rt
  | [.scr ns] => if ns.length ≤ 63 then W.ret (false, .box 0) else W.fail
  | _ => W.fail
theorem sem_deal_mono (ds : List D) : W.Mono (sem__law_deal ds) := by
  unfold sem__law_deal
  split
  · exact ite_mono W.Mono.ret W.Mono.fail
  · exact W.Mono.fail
theorem sem_deal_inv {ds : List D} {Q : Bool × D → Prop} {E : Ex → Prop} (h : sem__law_deal ds Q E) : ∃ ns : List Int, ds = [.scr ns] ∧ ns.length ≤ 63 ∧ Q (false, .box 0) := by
  unfold sem__law_deal at h
  split at h
  · obtain ⟨h1, h2⟩ := ite_ret h
    exact ⟨_, rfl, h1, h2⟩
  · exact h.elim
theorem Reps.asInts {G : Wd} {N : Addr → Prop} {H : Hp} : ∀ {ns : List Int} {vs : List V}, Reps G N H (ns.map D.int) vs → vs = ns.map V.int
  | [], _, h => h
  | n :: r, _, ⟨w, ws, e, rw', rs⟩ => by rw [e, show w = V.int n from rw', Reps.asInts rs]; rfl
/-- the lists of the box become loosely known -/
theorem HOk.loose {P : Program} {w : World} {H : Hp} {h : Heap} {a b : Addr} {cells : List Int} {m : Int} (ok : HOk P w H h) (ne : a ≠ b) (ha : H a = some (.lst [.ref b, .int m])) (hb : H b = some (.lst (cells.map V.int))) (hl : cells.length ≤ 100) :
    HOk P w (upd (upd H b (.ext (boxB b))) a (.ext (boxA a b))) h := by
  obtain ⟨_, itb, nb, rb, eb⟩ := (show ObjOk P w H h b (.lst (cells.map V.int)) from ok b _ hb)
  obtain ⟨_, ita, na, ra, ea⟩ := (show ObjOk P w H h a (.lst [.ref b, .int m]) from ok a _ ha)
  have o1 : HOk P w (upd H b (.ext (boxB b))) h := HOk.write (x := b) (e := b) ok (by rw [hb]; trivial) (.inl rfl) (fun _ _ _ q => q) ⟨_, eb⟩ ⟨⟨cells, itb, nb, hl, rb, eb⟩, ⟨_, eb⟩, fun h1 h2 ⟨ns, its, n, hl, r, e⟩ k => ⟨ns, its, n, hl, r, k _ e⟩⟩
  exact HOk.write (x := a) (e := a) o1 (by rw [upd_ne ne, ha]; trivial) (.inl rfl) (fun _ _ _ q => q) ⟨_, ea⟩ ⟨⟨m, ita, na, ra, ea⟩, ⟨_, ea⟩, fun h1 h2 ⟨m, its, n, r, e⟩ k => ⟨m, its, n, r, k _ e⟩⟩
theorem Un.loose {fs : List Addr} {H H' : Hp} {h h' : Heap} {a b : Addr} {ua ub va vb : HO} (u : Un fs [] H H' h h') (ha : H' a = some ua) (hb : H' b = some ub) (na : H a = none) (nb : H b = none) : Un fs [] H (upd (upd H' b vb) a va) h h' := by
  have neq : ∀ c o, H c = some o → c ≠ a ∧ c ≠ b := fun c o e => ⟨fun z => (by rw [z, na] at e; cases e), fun z => (by rw [z, nb] at e; cases e)⟩
  refine ⟨u.keep, u.slot, fun c o e n hx => ?_, u.there, fun c xs e => ?_, fun c o x e => ?_, fun c ps e => ?_⟩
  · have z := u.free c o e n hx
    have ca : c ≠ a := fun y => by rw [y, ha] at z; cases z
    have cb : c ≠ b := fun y => by rw [y, hb] at z; cases z
    rw [upd_ne ca, upd_ne cb]; exact z
  · rw [upd_ne (neq c _ e).1, upd_ne (neq c _ e).2]; exact u.tups c xs e
  · rw [upd_ne (neq c _ e).1, upd_ne (neq c _ e).2]; exact u.frzs c o x e
  · rw [upd_ne (neq c _ e).1, upd_ne (neq c _ e).2]; exact u.tbls c ps e
theorem box_of {P : Program} {w : World} {G : Wd} {base : Heap} {k : Nat} {x p : Str} {sem : List D → Rt} (F : FnK P w G base k x [p] sem)
    (hs : ∀ (ns : List Int), ns.length ≤ 63 → ∀ (Q : Bool × D → Prop) (E : Ex → Prop), (∀ (cells : List Int) (m : Int), cells.length ≤ 100 → Q (true, .lst [.lst (cells.map D.int), .int m])) → sem [.scr ns] Q E) : FnK P w G base k x [p] sem__law_deal := by
  obtain ⟨f, fd, h1, h2, h3, F⟩ := F.ex
  refine ⟨f, fd, h1, h2, h3, ⟨fun A outer s H args us vs ds N Q E hr hg e0 tb hb rv rd hl q => ?_, sem_deal_mono⟩⟩
  obtain ⟨ns, rfl, hns, q⟩ := sem_deal_inv q
  obtain ⟨v, rfl, a0, rfl, hsc⟩ := rd.one_inv
  have go := F.run A outer s H args us [.ref a0] [.scr ns] (fun _ => False) (fun v H' => ∃ (a b : Addr) (cells : List Int) (m : Int), v = .ref a ∧ a ≠ b ∧ H a = none ∧ H b = none ∧ H' a = some (.lst [.ref b, .int m]) ∧ H' b = some (.lst (cells.map V.int)) ∧ cells.length ≤ 100 ∧ Same G H H') (fun _ _ _ => False) hr hg e0 tb hb rv (.one ⟨a0, rfl, hsc⟩) hl
    (hs ns hns _ _ fun cells m hc v H' s' r' f' => by
      obtain ⟨a, vs, ev, n, hv, v1, ws, e1, ⟨b, ws2, e2, n2, hb2, rb⟩, v2, ws3, e3, rm, e4⟩ := r'
      subst e1 e2 e3
      obtain rfl : v2 = .int m := rm
      rw [show ws3 = [] from e4] at hv
      rw [rb.asInts] at hb2
      have na : H a = none := n.elim (fun z => z.elim) id
      have nb : H b = none := n2.elim (fun z => z.elim) id
      refine ⟨a, b, cells, m, ev, fun z => ?_, na, nb, hv, hb2, hc, s'⟩
      subst z
      rw [hv] at hb2
      cases cells with
      | nil => cases hb2
      | cons c r => cases hb2)
  refine codeAny_mono go fun r s' h => ?_
  cases r with
  | error e => exact (cx_never h).elim
  | ok fl =>
    cases fl with
    | ret u =>
      obtain ⟨v, H', os, bare, un, hok, r', a, b, cells, m, rfl, ne, na, nb, ha, hb', hc, sm⟩ := h
      refine ⟨.ref a, _, os, bare, Un.loose (va := .ext (boxA a b)) (vb := .ext (boxB b)) un ha hb' na nb, HOk.loose hok ne ha hb' hc, r', q (.ref a) _ (Same.updN (Same.updN sm nb (.inr ⟨_, hb', trivial⟩)) na (.inr ⟨_, (upd_ne ne).trans ha, trivial⟩)) ⟨a, rfl, ?_⟩ fun z => nomatch z⟩
      · exact (show BoxAt _ 0 a from ⟨b, ne, upd_same, by rw [upd_ne ne.symm, upd_same]⟩)
    | _ => exact False.elim h
end Fb
end

section
set_option Elab.async false
set_option linter.all false
set_option maxRecDepth 100000
set_option maxHeartbeats 4000000
/-! Programs over data, run: loops and blocks. -/
namespace Fb
open PySem PySem.Spec PyProof.Rows L2
/-- a block whose parts are plain -/
theorem lcN_map {p : D → Option (List (Nat × D))} {c : Ro → W Ex Bool} {e : Ro → W Ex D} {ρ : Ro} (t : D → Bool) (f : D → D) : ∀ {xs : List D}, (∀ x ∈ xs, ∃ bs, p x = some bs ∧ c (setR ρ bs) = W.ret (t x) ∧ (t x = true → e (setR ρ bs) = W.ret (f x))) → lcN p c e ρ xs = W.ret ((xs.filter t).map f)
  | [], _ => rfl
  | x :: xs, h => by
    obtain ⟨bs, h1, h2, h3⟩ := h x List.mem_cons_self
    have ih := lcN_map t f (xs := xs) fun y hy => h y (List.mem_cons_of_mem _ hy)
    unfold lcN
    rw [h1]
    show (W.bind (W.calm (c (setR ρ bs))) fun b => if b = true then W.bind (W.calm (e (setR ρ bs))) fun y => W.bind (lcN p c e ρ xs) fun ys => W.ret (y :: ys) else lcN p c e ρ xs) = _
    rw [h2, ih]
    show (if t x = true then W.bind (W.calm (e (setR ρ bs))) fun y => W.bind (W.ret ((xs.filter t).map f)) fun ys => W.ret (y :: ys) else W.ret ((xs.filter t).map f)) = _
    cases ht : t x with
    | true =>
      rw [if_pos rfl, h3 ht, List.filter_cons, if_pos ht]
      rfl
    | false =>
      rw [if_neg Bool.false_ne_true, List.filter_cons, if_neg (by rw [ht]; exact Bool.false_ne_true)]
/-- .. without tests -/
theorem lcN_all {p : D → Option (List (Nat × D))} {e : Ro → W Ex D} {ρ : Ro} (f : D → D) {xs : List D} (h : ∀ x ∈ xs, ∃ bs, p x = some bs ∧ e (setR ρ bs) = W.ret (f x)) : lcN p mYes e ρ xs = W.ret (xs.map f) := by
  rw [lcN_map (fun _ => true) f fun x hx => let ⟨bs, h1, h2⟩ := h x hx; ⟨bs, h1, rfl, fun _ => h2⟩]
  congr 2
  exact List.filter_eq_self.mpr fun _ _ => rfl
/-- a loop by what stays true: I of the items left and the slots -/
theorem forN_inv {p : D → Option (List (Nat × D))} {b : En → WS} (hb : ∀ ρ, W.Mono (b ρ)) {Q : Fl × En → Prop} {E : Ex × En → Prop} (I : List D → En → Prop)
    (step : ∀ d ds ρ, I (d :: ds) ρ → ∃ bs, p d = some bs ∧ b (setE ρ bs) (fun q => (q.1 = .nx ∨ q.1 = .ct) ∧ I ds q.2) fun _ => False) (done : ∀ ρ, I [] ρ → Q (.nx, ρ)) : ∀ {ds : List D} {ρ : En}, I ds ρ → forN p b ds ρ Q E
  | [], ρ, h => done ρ h
  | d :: ds, ρ, h => by
    obtain ⟨bs, h1, h2⟩ := step d ds ρ h
    unfold forN
    rw [h1]
    refine (hb _).run (fun q z => ?_) (fun _ z => z.elim) h2
    obtain ⟨f, ρ'⟩ := q
    obtain ⟨hf, hi⟩ := z
    rcases hf with hf | hf
    · cases hf; exact forN_inv hb I step done hi
    · cases hf; exact forN_inv hb I step done hi
theorem cutD_ints (ns : List Int) (lo hi : Option Int) : ∃ l : List Int, cutD (ns.map D.int) lo hi = l.map D.int ∧ l.length ≤ ns.length := by
  refine ⟨(ns.drop (HT.sIx (ns.map D.int).length 0 lo)).take (HT.sIx (ns.map D.int).length (ns.map D.int).length hi - HT.sIx (ns.map D.int).length 0 lo), ?_, ?_⟩
  · unfold cutD
    rw [List.map_take, List.map_drop]
  · rw [List.length_take, List.length_drop]; omega
end Fb
end

section
set_option Elab.async false
set_option linter.all false
set_option maxRecDepth 100000
set_option maxHeartbeats 4000000
/-! The box of two numbers: opened, drawn from, closed. -/
namespace Fb
open PySem PySem.Spec PyProof.Rows L2
section
variable {X : Cx}
/-- the box within: its numbers; all else as in H -/
structure BoxIC (G : Wd) (H : Hp) (a : Addr) (H' : Hp) (i m : Int) : Prop where
  ha : H' a = some (.lst [.int i, .int m])
  rest : ∀ c o, c ≠ a → H c = some o → (∀ ps, o ≠ .tbl ps) → H' c = some o
  fre : ∀ c, H' c = none → H c = none
  tb : TabsG G H'
theorem pss_boxC (G : Wd) {sts : List Stmt} {t : TS} (h : PSs X sts t) {a : Addr} : PSs X sts (fun D σ H => TabsG G H ∧ H a = some (.ext (boxC a)) ∧ ∀ i m H1, BoxIC G H a H1 i m →
    t ⟨fun _ _ => False, fun v H' => ∃ i m, BoxIC G H a H' i m ∧ D.rt v (upd H' a (.ext (boxC a))), fun _ _ => False, fun _ _ => False⟩ σ H1) := by
  refine ⟨fun pins s σ H D I ⟨t, ha, q⟩ => ?_⟩
  obtain ⟨i, m, I1⟩ := openC I ha
  have bx : BoxIC G H a (upd H a (.lst [.int i, .int m])) i m := ⟨upd_same, fun c o h1 e _ => by rw [upd_ne h1]; exact e, fun c e => (upd_none_ne e).2, tabs_upd t (.inr ⟨_, ha, boxC_no⟩)⟩
  refine thn (h.run pins s σ _ _ I1 (q i m _ bx)) fun f s1 z => ?_
  cases f with
  | next => obtain ⟨_, _, _, z⟩ := z; exact z.elim
  | brk => obtain ⟨_, _, _, z⟩ := z; exact z.elim
  | cont => obtain ⟨_, _, _, z⟩ := z; exact z.elim
  | ret u =>
    obtain ⟨v, σ', H', I3, rv, i', m', bx', z⟩ := z
    exact ⟨v, σ', _, closeC I3 bx'.ha, rv, z⟩
variable {H H' H'' : Hp} {a : Addr} {i m k : Int}
variable {G : Wd}
theorem BoxIC.same (x : BoxIC G H a H' i m) (h1 : H a = some (.ext (boxC a))) : Same G H (upd H' a (.ext (boxC a))) := ⟨fun c o e n => by
  by_cases ca : c = a
  · subst ca; rw [upd_same]; rw [h1] at e; exact e
  · rw [upd_ne ca]; exact x.rest c o ca e n, fun c e => x.fre c (upd_none_ne e).2, fun _ => tabs_upd x.tb (.inr ⟨_, x.ha, lst_no⟩)⟩
theorem BoxIC.step (x : BoxIC G H a H' i m) (s : Same G H' H'') : BoxIC G H a H'' i m := ⟨s.at x.ha, fun c o h1 e n => s.at (x.rest c o h1 e n) n, fun c e => x.fre c (s.free e), s.tab x.tb⟩
theorem BoxIC.set (x : BoxIC G H a H' i m) {i' m' : Int} : BoxIC G H a (upd H' a (.lst [.int i', .int m'])) i' m' := ⟨upd_same, fun c o h1 e n => by rw [upd_ne h1]; exact x.rest c o h1 e n, fun c e => x.fre c (upd_none_ne e).2, tabs_upd x.tb (.inr ⟨_, x.ha, lst_no⟩)⟩
def boxCD (i m : Int) : D := .lst [.int i, .int m]
theorem BoxIC.rep (x : BoxIC G H a H' i m) : Rep G NT H' (boxCD i m) (.ref a) := ⟨a, _, rfl, trivial, x.ha, .int i, _, rfl, rfl, .int m, [], rfl, rfl, rfl⟩
end
/-! ### a draw -/
section
variable (k1 k2 k3 k4 k5 k6 k7 k8 : Int)
def cGt : Ro → W Ex Bool := mTest (mOp gGt (mOp gIx (mVar 0) (mC (.int 0))) (mC (.int 0)))
def mDig : Ro → W Ex D := mOp gMod (mDe (mBlt (g1 intD) (mCons (mOp gIx (mVar 0) (mC (.int 0))) mNil))) (mVar 1)
def mQuo : Ro → W Ex D := mOp gFdiv (mOp gIx (mVar 0) (mC (.int 0))) (mVar 1)
def mRaw : Ro → W Ex D := mOp gMod (mDe (mBlt (g1 intD) (mCons (mDe (mOpR gAdd (mOp gMul (mOp gIx (mVar 0) (mC (.int 1))) (mC (.int k1))) (mC (.int k2)))) mNil))) (mC (.int k3))
def mNxt : Ro → W Ex D := mDe (mOpR gAdd (mOp gMod (mDe (mBlt (g1 intD) (mCons (mDe (mOpR gAdd (mOp gMul (mVar 3) (mC (.int k4))) (mC (.int k5)))) mNil))) (mC (.int k6))) (mC (.int 1)))
def mEnd : Ro → W Ex (Bool × D) := mDr (mOp gMod (mDe (mBlt (g1 intD) (mCons (mOp gFdiv (mDe (mOpR gAdd (mOp gMul (mVar 3) (mC (.int k7))) (mOp gIx (mVar 0) (mC (.int 1))))) (mC (.int k8))) mNil))) (mVar 1))
def tChoose (G : Wd) (K : PySem.W.Frag) (Wx : WX) : TS :=
  tSeq (tIfS (tT G Wx cGt) (tSeq (tAsg (tE G Wx mDig) (gName 2)) (tSeq (tAsg (tE G Wx mQuo) (L2.gSub (tVar 0) (tC (.int 0)) rSetL)) (tRet (tR G Wx (mDr (mVar 2)))))) tNext)
    (tSeq (tAsg (tE G Wx (mRaw k1 k2 k3)) (gName 3)) (tSeq (tAsg (tE G Wx (mNxt k4 k5 k6)) (L2.gSub (tVar 0) (tC (.int 1)) rSetL)) (tRet (tR G Wx (mEnd k7 k8)))))
end
section
variable {G : Wd} {K : PySem.W.Frag} {Wx : WX} {H H' : Hp} {a : Addr} {i m k : Int} {σ : Fb.St} {k1 k2 k3 k4 k5 k6 k7 k8 : Int}
theorem BoxIC.er (x : BoxIC G H a H' i m) (h0 : σ[0]? = some (some (.ref a))) (h1 : σ[1]? = some (some (.int k))) : ERel G NT H' σ [some (boxCD i m), some (.int k)] := ⟨x.tb, fun j d e => by
  match j, e with
  | 0, e => cases e; exact ⟨_, h0, x.rep⟩
  | 1, e => cases e; exact ⟨_, h1, rfl⟩⟩
theorem BoxIC.er2 {r : Int} (x : BoxIC G H a H' i m) (h0 : σ[0]? = some (some (.ref a))) (h1 : σ[1]? = some (some (.int k))) (h2 : σ[2]? = some (some (.int r))) : ERel G NT H' σ [some (boxCD i m), some (.int k), some (.int r)] := ⟨x.tb, fun j d e => by
  match j, e with
  | 0, e => cases e; exact ⟨_, h0, x.rep⟩
  | 1, e => cases e; exact ⟨_, h1, rfl⟩
  | 2, e => cases e; exact ⟨_, h2, rfl⟩⟩
theorem BoxIC.er3 {r : Int} (x : BoxIC G H a H' i m) (h0 : σ[0]? = some (some (.ref a))) (h1 : σ[1]? = some (some (.int k))) (h3 : σ[3]? = some (some (.int r))) : ERel G NT H' σ [some (boxCD i m), some (.int k), none, some (.int r)] := ⟨x.tb, fun j d e => by
  match j, e with
  | 0, e => cases e; exact ⟨_, h0, x.rep⟩
  | 1, e => cases e; exact ⟨_, h1, rfl⟩
  | 2, e => cases e
  | 3, e => cases e; exact ⟨_, h3, rfl⟩⟩
theorem ev_gt (r : Ro) : cGt (some (boxCD i m) :: r) = W.ret (decide (0 < i)) := rfl
theorem mod_pos {a b : Int} (h : 0 < b) : gMod (.int a) (.int b) = W.ret (.int (a % b)) := by
  show (if 0 < b then W.ret (D.int (a % b)) else W.fail) = _
  rw [if_pos h]
theorem mul_sm {a b : Int} (h : -(2 ^ 64) < b ∧ b < 2 ^ 64) : gMul (.int a) (.int b) = W.ret (.int (a * b)) := by
  show (if (-(2 ^ 64) < a ∧ a < 2 ^ 64) ∨ (-(2 ^ 64) < b ∧ b < 2 ^ 64) then W.ret (D.int (a * b)) else W.fail) = _
  rw [if_pos (.inr h)]
theorem fdiv_sm {a b : Int} (h : 0 < b ∧ b < 1073741824) : gFdiv (.int a) (.int b) = W.ret (.int (a / b)) := by
  show (if 0 < b ∧ b < 1073741824 then W.ret (D.int (a / b)) else W.fail) = _
  rw [if_pos h]
theorem ev_dig (h : 0 < k) : mDig [some (boxCD i m), some (.int k)] = W.ret (.int (i % k)) := by
  show W.calm (gMod (.int i) (.int k)) = _
  rw [mod_pos h]; rfl
theorem ev_quo (h : 0 < k ∧ k < 1073741824) : mQuo [some (boxCD i m), some (.int k), none] = W.ret (.int (i / k)) := by
  show W.calm (gFdiv (.int i) (.int k)) = _
  rw [fdiv_sm ⟨h.1, by omega⟩]; rfl
theorem ev_quo3 {d : Int} (h : 0 < k ∧ k < 1073741824) : mQuo [some (boxCD i m), some (.int k), some (.int d)] = W.ret (.int (i / k)) := by
  show W.calm (gFdiv (.int i) (.int k)) = _
  rw [fdiv_sm ⟨h.1, by omega⟩]; rfl
theorem ev_raw (h1 : -(2 ^ 64) < k1 ∧ k1 < 2 ^ 64) (h3 : 0 < k3) (r : Ro) : mRaw k1 k2 k3 (some (boxCD i m) :: r) = W.ret (.int ((m * k1 + k2) % k3)) := by
  show (W.bind (W.bind (W.bind (W.bind (W.calm (gMul (.int m) (.int k1))) fun a => W.bind (W.calm (gAdd a (.int k2))) fun r => W.ret r.2) fun d => W.calm (g1 intD [d])) fun r => W.ret r.2) fun a => W.calm (gMod a (.int k3))) = _
  rw [mul_sm h1]
  show W.calm (gMod (.int (m * k1 + k2)) (.int k3)) = _
  rw [mod_pos h3]; rfl
theorem ev_nxt {r : Int} (h4 : -(2 ^ 64) < k4 ∧ k4 < 2 ^ 64) (h6 : 0 < k6) : mNxt k4 k5 k6 [some (boxCD i m), some (.int k), none, some (.int r)] = W.ret (.int ((r * k4 + k5) % k6 + 1)) := by
  show (W.bind (W.bind (W.bind (W.bind (W.bind (W.bind (W.calm (gMul (.int r) (.int k4))) fun a => W.bind (W.calm (gAdd a (.int k5))) fun r => W.ret r.2) fun d => W.calm (g1 intD [d])) fun r => W.ret r.2) fun a => W.calm (gMod a (.int k6))) fun a => W.calm (gAdd a (.int 1))) fun r => W.ret r.2) = _
  rw [mul_sm h4]
  show (W.bind (W.bind (W.calm (gMod (.int (r * k4 + k5)) (.int k6))) fun a => W.calm (gAdd a (.int 1))) fun r => W.ret r.2) = _
  rw [mod_pos h6]; rfl
theorem ev_end {r : Int} (h : 0 < k) (h7 : -(2 ^ 64) < k7 ∧ k7 < 2 ^ 64) (h8 : 0 < k8 ∧ k8 < 1073741824) : mEnd k7 k8 [some (boxCD i m), some (.int k), none, some (.int r)] = W.ret (false, .int ((r * k7 + m) / k8 % k)) := by
  show (W.bind (W.bind (W.bind (W.bind (W.bind (W.bind (W.bind (W.calm (gMul (.int r) (.int k7))) fun a => W.calm (gAdd a (.int m))) fun r => W.ret r.2) fun a => W.calm (gFdiv a (.int k8))) fun d => W.calm (g1 intD [d])) fun r => W.ret r.2) fun a => W.calm (gMod a (.int k))) fun d => W.ret (false, d)) = _
  rw [mul_sm h7]
  show (W.bind (W.bind (W.bind (W.bind (W.calm (gFdiv (.int (r * k7 + m)) (.int k8))) fun d => W.calm (g1 intD [d])) fun r => W.ret r.2) fun a => W.calm (gMod a (.int k))) fun d => W.ret (false, d)) = _
  rw [fdiv_sm h8]
  show (W.bind (W.calm (gMod (.int ((r * k7 + m) / k8)) (.int k))) fun d => W.ret (false, d)) = _
  rw [mod_pos h]; rfl
/-- what the numbers of a draw must be -/
def goodK (k1 k3 k4 k6 k7 k8 : Int) : Prop := (-(2 ^ 64) < k1 ∧ k1 < 2 ^ 64) ∧ 0 < k3 ∧ (-(2 ^ 64) < k4 ∧ k4 < 2 ^ 64) ∧ 0 < k6 ∧ (-(2 ^ 64) < k7 ∧ k7 < 2 ^ 64) ∧ 0 < k8 ∧ k8 < 1073741824
theorem choose_read {D' : Ends} {σ : Fb.St} (hk : 0 < k) (hk2 : k < 1073741824) (gk : goodK k1 k3 k4 k6 k7 k8) (h0 : σ[0]? = some (some (.ref a))) (h1 : σ[1]? = some (some (.int k))) (h3 : 3 < σ.length) (x : BoxIC G H a H' i m)
    (q : ∀ (r : Int) i' m' H'', 0 ≤ r → r < k → BoxIC G H a H'' i' m' → D'.rt (.int r) H'') : tChoose k1 k2 k3 k4 k5 k6 k7 k8 G K Wx D' σ H' := by
  obtain ⟨g1, g3, g4, g6, g7, g8⟩ := gk
  have h2 : 2 < σ.length := by omega
  refine tT_ret (x.er (G := G) h0 h1) (ev_gt (i := i) (m := m) _) fun H2 s2 => ?_
  have x2 := x.step s2
  by_cases hi : (decide (0 < i)) = true
  · rw [if_pos hi]
    refine tE_ret (x2.er (G := G) h0 h1) (ev_dig hk) fun v H3 s3 r3 => ?_
    have x3 := x2.step s3
    obtain rfl : v = .int (i % k) := r3
    have f0 : (σ.set 2 (some (V.int (i % k))))[0]? = some (some (.ref a)) := by rw [List.getElem?_set_ne (by decide)]; exact h0
    have f1 : (σ.set 2 (some (V.int (i % k))))[1]? = some (some (.int k)) := by rw [List.getElem?_set_ne (by decide)]; exact h1
    have f2 : (σ.set 2 (some (V.int (i % k))))[2]? = some (some (.int (i % k))) := List.getElem?_set_self h2
    refine tE_ret (x3.er2 (G := G) f0 f1 f2) (ev_quo3 ⟨hk, hk2⟩) fun v H4 s4 r4 => ?_
    have x4 := x3.step s4
    obtain rfl : v = .int (i / k) := r4
    refine ⟨_, f0, a, _, 0, 0, rfl, rfl, x4.ha, rfl, ?_⟩
    have x5 := x4.set (i' := i / k) (m' := m)
    refine tR_ret (ρ := [some (boxCD (i / k) m), some (.int k), some (.int (i % k))]) (d := (false, .int (i % k))) (x5.er2 (G := G) f0 f1 f2) rfl fun v H6 s6 r6 => ?_
    obtain rfl : v = .int (i % k) := r6
    exact q _ _ _ _ (Int.emod_nonneg _ (by omega)) (Int.emod_lt_of_pos _ hk) (x5.step s6)
  · rw [if_neg hi]
    refine tE_ret (x2.er (G := G) h0 h1) (ev_raw g1 g3 _) fun v H3 s3 r3 => ?_
    have x3 := x2.step s3
    obtain rfl : v = .int ((m * k1 + k2) % k3) := r3
    generalize (m * k1 + k2) % k3 = r
    have f0 : (σ.set 3 (some (V.int r)))[0]? = some (some (.ref a)) := by rw [List.getElem?_set_ne (by decide)]; exact h0
    have f1 : (σ.set 3 (some (V.int r)))[1]? = some (some (.int k)) := by rw [List.getElem?_set_ne (by decide)]; exact h1
    have f3 : (σ.set 3 (some (V.int r)))[3]? = some (some (.int r)) := List.getElem?_set_self h3
    refine tE_ret (x3.er3 (G := G) f0 f1 f3) (ev_nxt g4 g6) fun v H4 s4 r4 => ?_
    have x4 := x3.step s4
    obtain rfl : v = .int ((r * k4 + k5) % k6 + 1) := r4
    refine ⟨_, f0, a, _, 1, 1, rfl, rfl, x4.ha, rfl, ?_⟩
    have x5 := x4.set (i' := i) (m' := (r * k4 + k5) % k6 + 1)
    refine tR_ret (x5.er3 (G := G) f0 f1 f3) (ev_end hk g7 g8) fun v H6 s6 r6 => ?_
    obtain rfl := (show v = .int _ from r6)
    exact q _ _ _ _ (Int.emod_nonneg _ (by omega)) (Int.emod_lt_of_pos _ hk) (x5.step s6)
end
def sem__law_choose : List D → Rt
  | [.box 1, .int m] => fun Q _ => 0 < m ∧ m < 1073741824 ∧ ∀ r : Int, 0 ≤ r → r < m → Q (false, .int r)
  | _ => W.fail
theorem sem_choose_inv {ds : List D} {Q : Bool × D → Prop} {E : Ex → Prop} (h : sem__law_choose ds Q E) : ∃ m, ds = [.box 1, .int m] ∧ 0 < m ∧ m < 1073741824 ∧ ∀ r : Int, 0 ≤ r → r < m → Q (false, .int r) := by
  unfold sem__law_choose at h
  split at h
  · exact ⟨_, rfl, h⟩
  · exact h.elim
theorem sem_choose_mono (ds : List D) : W.Mono (sem__law_choose ds) := by
  unfold sem__law_choose
  split
  · exact ⟨fun f _ ⟨h1, h2, h3⟩ => ⟨h1, h2, fun r h4 h5 => f _ (h3 r h4 h5)⟩⟩
  · exact W.Mono.fail
theorem fnd_choose {P : Program} {w : World} {G : Wd} {base : Heap} {kk : Nat} {f : Addr} {x qual : Str} {st : Stmt} {fd : FuncData} {p1 p2 p3 p4 : Str} (k1 k2 k3 k4 k5 k6 k7 k8 : Int) (gk : goodK k1 k3 k4 k6 k7 k8) (F : Fun G.K x qual st f fd) (S : FnScope [p1, p2, p3, p4] [p1, p2] (defScope st))
    (body : ∀ (cdv : Value) (A : Around) (outer : List Env) (s : Shared) (H : Hp) (E : XK), Cz P w G base kk (cxD P w G base [p1, p2, p3, p4] qual (defScope st) f cdv A outer s H E) (wxD E) →
      PSs (cxD P w G base [p1, p2, p3, p4] qual (defScope st) f cdv A outer s H E) (defBody st) (tChoose k1 k2 k3 k4 k5 k6 k7 k8 G G.K (wxD E))) : FnD P w G base (kk + 1) f fd [p1, p2] sem__law_choose := by
  refine fnd_raw F S sem_choose_mono fun cdv A outer s H E vs ds N Q Z tb rd hl q => ?_
  obtain ⟨m, rfl, h1, h2, q⟩ := sem_choose_inv q
  obtain ⟨v, u, rfl, ⟨a, rfl, hx⟩, r2⟩ := rd.two_inv
  obtain rfl : u = .int m := r2
  have ha : H a = some (.ext (boxC a)) := hx
  refine ⟨_, pss_boxC G (a := a) (body cdv A outer s H E Z), tb, ha, fun i m' H1 x1 => choose_read h1 h2 gk rfl rfl (by show 3 < 4; decide) x1 fun r i' m'' H2 g1 g2 x2 => ⟨i', m'', x2, ?_⟩⟩
  exact q r g1 g2 _ _ (x2.same ha) rfl fun z => nomatch z
/-! ### a new box -/
def sem__law_seed : List D → Rt
  | [.scr ns, .int k] => if ns.length ≤ 63 ∧ 0 ≤ k ∧ k < 1000 then W.ret (false, .box 1) else W.fail
  | _ => W.fail
theorem sem_seed_mono (ds : List D) : W.Mono (sem__law_seed ds) := by
  unfold sem__law_seed
  split
  · exact ite_mono W.Mono.ret W.Mono.fail
  · exact W.Mono.fail
theorem sem_seed_inv {ds : List D} {Q : Bool × D → Prop} {E : Ex → Prop} (h : sem__law_seed ds Q E) : ∃ (ns : List Int) (k : Int), ds = [.scr ns, .int k] ∧ ns.length ≤ 63 ∧ 0 ≤ k ∧ k < 1000 ∧ Q (false, .box 1) := by
  unfold sem__law_seed at h
  split at h
  · obtain ⟨⟨h1, h2, h3⟩, h4⟩ := ite_ret h
    exact ⟨_, _, rfl, h1, h2, h3, h4⟩
  · exact h.elim
theorem HOk.looseC {P : Program} {w : World} {H : Hp} {h : Heap} {a : Addr} {i m : Int} (ok : HOk P w H h) (ha : H a = some (.lst [.int i, .int m])) : HOk P w (upd H a (.ext (boxC a))) h := by
  obtain ⟨_, ita, na, ra, ea⟩ := (show ObjOk P w H h a (.lst [.int i, .int m]) from ok a _ ha)
  exact HOk.write (x := a) (e := a) ok (by rw [ha]; trivial) (.inl rfl) (fun _ _ _ q => q) ⟨_, ea⟩ ⟨⟨i, m, ita, na, ra, ea⟩, ⟨_, ea⟩, fun h1 h2 ⟨i, m, its, n, r, e⟩ k => ⟨i, m, its, n, r, k _ e⟩⟩
theorem Un.looseC {fs : List Addr} {H H' : Hp} {h h' : Heap} {a : Addr} {ua va : HO} (u : Un fs [] H H' h h') (ha : H' a = some ua) (na : H a = none) : Un fs [] H (upd H' a va) h h' := by
  have neq : ∀ c o, H c = some o → c ≠ a := fun c o e z => (by rw [z, na] at e; cases e)
  refine ⟨u.keep, u.slot, fun c o e n hx => ?_, u.there, fun c xs e => ?_, fun c o x e => ?_, fun c ps e => ?_⟩
  · have z := u.free c o e n hx
    have ca : c ≠ a := fun y => by rw [y, ha] at z; cases z
    rw [upd_ne ca]; exact z
  · rw [upd_ne (neq c _ e)]; exact u.tups c xs e
  · rw [upd_ne (neq c _ e)]; exact u.frzs c o x e
  · rw [upd_ne (neq c _ e)]; exact u.tbls c ps e
theorem box_ofC {P : Program} {w : World} {G : Wd} {base : Heap} {k : Nat} {x p1 p2 : Str} {sem : List D → Rt} (F : FnK P w G base k x [p1, p2] sem)
    (hs : ∀ (ns : List Int) (j : Int), ns.length ≤ 63 → 0 ≤ j → j < 1000 → ∀ (Q : Bool × D → Prop) (E : Ex → Prop), (∀ (i m : Int), Q (true, .lst [.int i, .int m])) → sem [.scr ns, .int j] Q E) : FnK P w G base k x [p1, p2] sem__law_seed := by
  obtain ⟨f, fd, h1, h2, h3, F⟩ := F.ex
  refine ⟨f, fd, h1, h2, h3, ⟨fun A outer s H args us vs ds N Q E hr hg e0 tb hb rv rd hl q => ?_, sem_seed_mono⟩⟩
  obtain ⟨ns, j, rfl, hns, j0, j1, q⟩ := sem_seed_inv q
  obtain ⟨v, u, rfl, ⟨a0, rfl, hsc⟩, r2⟩ := rd.two_inv
  obtain rfl : u = .int j := r2
  have go := F.run A outer s H args us [.ref a0, .int j] [.scr ns, .int j] (fun _ => False) (fun v H' => ∃ (a : Addr) (i m : Int), v = .ref a ∧ H a = none ∧ H' a = some (.lst [.int i, .int m]) ∧ Same G H H') (fun _ _ _ => False) hr hg e0 tb hb rv (.cons ⟨a0, rfl, hsc⟩ (.one rfl)) hl
    (hs ns j hns j0 j1 _ _ fun i m v H' s' r' f' => by
      obtain ⟨a, vs, ev, n, hv, v1, ws, e1, rm1, v2, ws3, e3, rm, e4⟩ := r'
      subst e1 e3
      obtain rfl : v1 = .int i := rm1
      obtain rfl : v2 = .int m := rm
      rw [show ws3 = [] from e4] at hv
      have na : H a = none := n.elim (fun z => z.elim) id
      exact ⟨a, i, m, ev, na, hv, s'⟩)
  refine codeAny_mono go fun r s' h => ?_
  cases r with
  | error e => exact (cx_never h).elim
  | ok fl =>
    cases fl with
    | ret u =>
      obtain ⟨v, H', os, bare, un, hok, r', a, i, m, rfl, na, ha, sm⟩ := h
      refine ⟨.ref a, _, os, bare, Un.looseC (va := .ext (boxC a)) un ha na, HOk.looseC hok ha, r', q (.ref a) _ (Same.updN sm na (.inr ⟨_, ha, trivial⟩)) ⟨a, rfl, ?_⟩ fun z => nomatch z⟩
      · exact (show upd H' a (.ext (boxC a)) a = some (.ext (boxC a)) from upd_same)
    | _ => exact False.elim h
end Fb
end

section
set_option Elab.async false
set_option linter.all false
set_option maxRecDepth 100000
set_option maxHeartbeats 4000000
/-! An expression on its own; is True; t * n; a cell of the script. -/
namespace Fb
open PySem PySem.Spec PyProof.Rows L2
section
variable {G : Wd} {X : Cx} {Wx : WX}
/-- e, its value dropped -/
def mDo (m : Ro → W Ex D) : En → WS := fun ρ => W.bind (up ρ (m (see [] ρ))) fun _ => W.ret (.nx, ρ)
theorem ds_do {e : Expr} {m : Ro → W Ex D} {pos : Pos} (h : DE G X Wx e m) (hs : swapsWith e none pos.line X.env = pure false := by rfl) : DS G X Wx (.Expr e pos) (mDo m) := by
  refine DS.imp (fun ρ => (Mono.up (h.mono _)).bind fun _ => W.Mono.ret) (ps_expr h.pe hs) fun H0 N0 ρ σ H D' r q => ?_
  obtain ⟨S, o⟩ := r.own
  exact h.inF r.same r.len o [] q fun d v H1 z s1 r1 => z _ _ ⟨r.same.trans s1, r.len, S, o.same s1⟩
def gIsB (neg : Bool) (a b : D) : W Ex D := match a, b with
  | .bl x, .bl y => W.ret (.bl ((x == y) != neg))
  | _, _ => W.fail
theorem gIsB_mono (neg : Bool) (a b : D) : W.Mono (gIsB neg a b) := by
  unfold gIsB
  split
  · exact W.Mono.ret
  · exact W.Mono.fail
theorem dop_isB : DOp G X (fun x y H Q => ∃ a b : Bool, x = .bl a ∧ y = .bl b ∧ Q (.bl (decide (a = b))) H) (gIsB false) := by
  refine ⟨gIsB_mono _, fun N H a b x y Q ra rb q => ?_⟩
  cases a <;> cases b <;> first | exact q.elim | skip
  rename_i a b
  exact ⟨a, b, ra, rb, q _ H (Same.refl H) (by cases a <;> cases b <;> rfl)⟩
theorem dop_isnotB : DOp G X (fun x y H Q => ∃ a b : Bool, x = .bl a ∧ y = .bl b ∧ Q (.bl (!decide (a = b))) H) (gIsB true) := by
  refine ⟨gIsB_mono _, fun N H a b x y Q ra rb q => ?_⟩
  cases a <;> cases b <;> first | exact q.elim | skip
  rename_i a b
  exact ⟨a, b, ra, rb, q _ H (Same.refl H) (by cases a <;> cases b <;> rfl)⟩
def gRep (a b : D) : W Ex D := match a, b with
  | .tup xs, .int k => if xs ≠ [] ∧ 2 ≤ k ∧ k ≤ 1000 ∧ xs.length ≤ 1000 then W.ret (.tup (List.replicate k.toNat xs).flatten) else W.fail
  | _, _ => W.fail
theorem gRep_mono (a b : D) : W.Mono (gRep a b) := by
  unfold gRep
  split
  · exact ite_mono W.Mono.ret W.Mono.fail
  · exact W.Mono.fail
theorem Reps.rep {N : Addr → Prop} {H : Hp} {ds : List D} {vs : List V} (r : Reps G N H ds vs) : ∀ n : Nat, Reps G N H (List.replicate n ds).flatten (List.replicate n vs).flatten
  | 0 => rfl
  | n + 1 => by
    rw [List.replicate_succ, List.replicate_succ, List.flatten_cons, List.flatten_cons]
    exact r.app (Reps.rep r n)
theorem dop_rep (hK : X.K = G.K) : DOp G X (rRepT X.K) gRep := by
  refine ⟨gRep_mono, fun N H a b x y Q ra rb q => ?_⟩
  cases a <;> cases b <;> first | exact q.elim | skip
  rename_i xs k
  obtain ⟨⟨h1, h2, h3, h4⟩, q⟩ := ite_ret q
  obtain ⟨a, vs, rfl, ha, rs⟩ := ra
  refine ⟨a, k, vs, rfl, rb, ?_, ?_, h2, h3, by rw [rs.length]; exact h4, fun p hp => ?_⟩
  · rw [hK]; exact ha.sq
  · intro z
    subst z
    have := rs.length
    exact h1 (List.length_eq_zero_iff.mp this.symm)
  · have s : Same G H (upd H p (.tup (List.replicate k.toNat vs).flatten)) := .of fun b o e => by rw [upd_ne (ne_of_none e hp)]; exact e
    exact q (.ref p) _ s ⟨p, _, rfl, .inl upd_same, ((rs.rep k.toNat).same s).sub fun _ => Fr.of⟩
theorem atI_map {α β : Type} (f : α → β) (xs : List α) (i : Int) : atI (xs.map f) i = (atI xs i).map f := by
  unfold atI
  rw [List.length_map]
  cases ixN xs.length i with
  | none => rfl
  | some j => show (xs.map f)[j]? = (xs[j]?).map f; rw [List.getElem?_map]
def gIxScr (a b : D) : W Ex D := match a, b with
  | .scr ns, .int i => W.got (atI ns i) fun j => W.ret (.int j)
  | _, _ => W.fail
theorem gIxScr_mono (a b : D) : W.Mono (gIxScr a b) := by
  unfold gIxScr
  split
  · exact got_mono fun _ => W.Mono.ret
  · exact W.Mono.fail
theorem dop_ixScr (hK : X.K = G.K) : DOp G X (rIxL X.K) gIxScr := by
  refine ⟨gIxScr_mono, fun N H a b x y Q ra rb q => ?_⟩
  cases a <;> cases b <;> first | exact q.elim | skip
  rename_i ns i
  obtain ⟨j, hj, q⟩ := got_inv q
  obtain ⟨a, rfl, ha⟩ := ra
  refine ⟨a, _, i, .int j, rfl, rb, by rw [hK]; exact ha.sq, by rw [atI_map, hj]; rfl, q _ H (Same.refl H) rfl⟩
end
end Fb
end

section
set_option Elab.async false
set_option linter.all false
set_option maxRecDepth 100000
set_option maxHeartbeats 4000000
/-! Walks over new dicts; {k: v}; xs[i] = e. -/
namespace Fb
open PySem PySem.Spec PyProof.Rows L2
section
variable {G : Wd} {X : Cx} {Wx : WX}
theorem pe_lockF {e : Expr} {te : TE} (h : PE X e te) : PE X e (fun σ H Q => te σ H fun x H1 => ∃ d kvs, x = .ref d ∧ H1 d = some (.dK kvs) ∧ ∀ o, Q x (upd H1 d (.frz o (.dK kvs)))) := by
  refine ⟨fun pins s σ H Q I hw => ?_⟩
  refine thn (h.run pins s σ H _ I hw) fun v s1 ⟨x, H1, I1, r, d, kvs, ex, hd, q⟩ => ?_
  obtain ⟨od, I2⟩ := I1.lock hd trivial
  exact ⟨x, _, I2, r, q od⟩
def pairD (kv : Key × D) : D := .tup [keyD kv.1, kv.2]
theorem RepK.get {N : Addr → Prop} {H : Hp} : ∀ {kvs : List (Key × D)} {ks : List (Key × V)} {i : Nat} {k : Key} {d : D}, RepK G N H kvs ks → kvs[i]? = some (k, d) → ∃ v, ks[i]? = some (k, v) ∧ Rep G N H d v
  | [], _, i, k, d, h, e => by simp at e
  | (k', d') :: kvs, _, 0, k, d, ⟨w, ws, e, r, _⟩, q => by subst e; simp at q; obtain ⟨rfl, rfl⟩ := q; exact ⟨w, rfl, r⟩
  | (k', d') :: kvs, _, i + 1, k, d, ⟨w, ws, e, _, rs⟩, q => by
    subst e
    obtain ⟨v, h1, h2⟩ := RepK.get (i := i) rs (by simpa using q)
    exact ⟨v, by simpa using h1, h2⟩
theorem RepK.len {N : Addr → Prop} {H : Hp} : ∀ {kvs : List (Key × D)} {ks : List (Key × V)}, RepK G N H kvs ks → ks.length = kvs.length
  | [], _, h => by rw [show _ = [] from h]; rfl
  | (_, _) :: kvs, _, ⟨w, ws, e, _, rs⟩ => by rw [e, List.length_cons, List.length_cons, RepK.len rs]
theorem serves_items {N : Addr → Prop} {H : Hp} {a : Addr} {o : Obj} {kvs : List (Key × D)} {ks : List (Key × V)} (n : N a) (h : H a = some (.frz o (.dK ks))) (r : RepK G N H kvs ks) : Serves G N (Iti a o ks) (kvs.map pairD) H := fun HP p i H' s => by
  have h' : H' a = some (.frz o (.dK ks)) := s.at (p.has a _ h (.inl n))
  have r' : RepK G (fun a => N a ∧ HP a ≠ none) H' kvs ks := RepK.mono (fun _ n _ => n) (Le.of s) (RepK.part p r)
  rw [List.getElem?_map]
  refine ⟨fun d e => ?_, fun e => ⟨h', ?_⟩⟩
  · obtain ⟨⟨k, d'⟩, e, ed⟩ := Option.map_eq_some_iff.mp e
    obtain ⟨v, e1, r1⟩ := r'.get e
    refine ⟨⟨h', (List.getElem?_eq_some_iff.mp e1).1⟩, fun x H'' y => ?_⟩
    obtain ⟨T, k', v', y1, y2, y3, y4⟩ := (show ∃ T k v, ks[i]? = some (k, v) ∧ x = .ref T ∧ H' T = none ∧ H'' = upd H' T (.tup [kV k, v]) from y)
    rw [e1] at y1
    cases y1
    subst y2 y4 ed
    have s2 : Same G H' (upd H' T (.tup [kV k, v])) := Same.updN (Same.refl H') y3
    exact ⟨s2, T, _, rfl, .inl upd_same, kV k, [v], rfl, keyD_rep k, .one (r1.same s2)⟩
  · rw [r.len]
    have e : kvs[i]? = none := by simpa using e
    exact List.getElem?_eq_none_iff.mp e
/-- for .. in d.items(), d new -/
def mItemsF (m : Ro → W Ex (Bool × D)) : Ro → W Ex (List D) := fun ρ => W.bind (m ρ) fun r => if r.1 = true then W.got (asK r.2) fun kvs => W.ret (kvs.map pairD) else W.fail
theorem di_itemsF {e : Expr} {m : Ro → W Ex (Bool × D)} {apos cpos tpos : Pos} {elts : List Expr} {kk : Nat} (he : DR G X Wx e m) (hbase : attributeBase e "items" X.env (eval e X.env) = eval e X.env := by rfl) (hline : (apos.endLine == cpos.line) = true := by rfl) :
    DI G X Wx (.Tuple elts kk tpos) (.Call (.Attribute e "items" apos) [] [] cpos) (mItemsF m) := by
  refine DI.imp (fun ρ => (he.mono ρ).bind fun r => ite_mono (got_mono fun _ => W.Mono.ret) W.Mono.fail) (pi_items (pe_lockF he.pe) hbase hline) fun N ρ σ H R r q => ?_
  refine ⟨N, ρ, r, (he.mono ρ).run (fun rd z v H1 s1 r1 f1 => ?_) (fun x z => z) q⟩
  obtain ⟨hb, z⟩ := ite_ret z
  obtain ⟨kvs, hk, z⟩ := got_inv z
  have f1 := f1 hb
  rw [asK_inv hk] at f1
  obtain ⟨a, rfl, ha, ks, hks, rk⟩ := f1
  refine ⟨a, ks, rfl, hks, fun o => ⟨a, o, ks, rfl, upd_same, z _ _ (Same.updN s1 ha (.inr ⟨_, hks, trivial⟩)) (serves_items (.inr ha) upd_same ?_)⟩⟩
  · have lx : LeX (fun b => Fr N H b ∧ b ≠ a) H1 (upd H1 a (.frz o (.dK ks))) := LeX.upd hks trivial fun z => z.2 rfl
    exact RepK.monoX (fun _ n _ => n.1) lx rk
/-- {k: e} -/
def mDic1 (mk m : Ro → W Ex D) : Ro → W Ex (Bool × D) := fun ρ => W.bind (mk ρ) fun kd => W.got (keyOf kd) fun ky => W.bind (m ρ) fun d => W.ret (true, .dic [(ky, d)])
theorem dr_dic1 {k e : Expr} {mk m : Ro → W Ex D} {pos : Pos} (hk : DE G X Wx k mk) (he : DE G X Wx e m) : DR G X Wx (.Dict [some k] [e] pos) (mDic1 mk m) := by
  refine DR.imp (fun ρ => (hk.mono ρ).bind fun _ => got_mono fun _ => (he.mono ρ).bind fun _ => W.Mono.ret) (pe_disp (pps_cons hk.pe he.pe pps_nil) rfl rfl (by simp) (by show 1 ≤ 15; decide)) fun N ρ σ H Q rr q => fun p hp => ?_
  have s0 : Same G H (upd H p (.dK [])) := .of fun b o e => by rw [upd_ne (ne_of_none e hp)]; exact e
  have rr' : ERel G (fun a => N a ∧ H a ≠ none) (upd H p (.dK [])) σ ρ := ⟨s0.tab rr.tab, fun i d e => let ⟨v, e1, r⟩ := rr.get i d e; ⟨v, e1, (r.mono (N' := fun a => N a ∧ H a ≠ none) (fun a n y => ⟨n, y⟩) (Le.refl H)).same s0⟩⟩
  have xx : ∀ x, PoX G N Wx H σ x → PoX G (fun a => N a ∧ H a ≠ none) Wx (upd H p (.dK [])) σ x := fun x z c dd H' s' r' => z c dd H' (s0.trans s') (r'.mono fun a y => y.elim (fun w => .inl w.1) fun w => .inr (s0.free w))
  refine hk.go rr' q xx fun kd v H1 z s1 r1 rr1 => ?_
  obtain ⟨ky, hky, z⟩ := got_inv z
  refine he.go rr1 z (fun x w => (xx x w).step s1) fun d w H2 z s2 r2 _ => ?_
  have hp1 : H1 p = some (.dK []) := s1.at upd_same
  have hp2 : H2 p = some (.dK []) := s2.at hp1
  refine ⟨hp2, [(ky, w)], by rw [r1.key hky]; rfl, by show 1 ≤ 15; decide, ?_⟩
  have np : ¬ Fr (fun a => N a ∧ H a ≠ none) H1 p := fun z => z.elim (fun y => y.2 hp) fun y => by rw [hp1] at y; cases y
  have lx : LeX (Fr (fun a => N a ∧ H a ≠ none) H1) H2 (upd H2 p (.dK [(ky, w)])) := LeX.upd hp2 trivial np
  have r3 : Rep G (fun a => Fr (fun a => N a ∧ H a ≠ none) H1 a) (upd H2 p (.dK [(ky, w)])) d w := r2.monoX (fun _ n _ => n) lx
  have sub : ∀ a, Fr (fun a => N a ∧ H a ≠ none) H1 a → Fr N H a ∧ a ≠ p := fun a y => ⟨y.elim (fun w => .inl w.1) fun w => .inr (s0.free (s1.free w)), fun e => np (e ▸ y)⟩
  have sf : Same G H (upd H2 p (.dK [(ky, w)])) := Same.updN ((s0.trans s1).trans s2) hp (.inr ⟨_, hp2, trivial⟩)
  exact z (.ref p) _ sf ⟨p, [(ky, w)], rfl, .inr hp, .inl upd_same, w, [], rfl, r3.sub fun a y => (sub a y).1, rfl⟩ fun _ => ⟨p, rfl, hp, [(ky, w)], upd_same, w, [], rfl, r3.sub sub, rfl⟩
theorem Reps.set {N : Addr → Prop} {H : Hp} : ∀ {ds : List D} {vs : List V} {j : Nat} {d : D} {v : V}, Reps G N H ds vs → Rep G N H d v → Reps G N H (ds.set j d) (vs.set j v)
  | [], _, j, d, v, h, _ => by rw [show _ = [] from h]; exact rfl
  | _ :: ds, _, 0, d, v, ⟨w, ws, e, _, rs⟩, r => by subst e; exact ⟨v, ws, rfl, r, rs⟩
  | _ :: ds, _, j + 1, d, v, ⟨w, ws, e, r', rs⟩, r => by subst e; exact ⟨w, ws.set j v, rfl, r', Reps.set rs r⟩
/-- x[k] = e, x a list -/
def mLput (fz : List Nat) (i : Nat) (mk m : Ro → W Ex D) : En → WS := fun ρ => W.got (slotL ρ[i]?) fun ds => W.bind (up ρ (m (see fz ρ))) fun d => W.bind (up ρ (mk (ro ρ))) fun k => W.got (asI k) fun z => W.got (tak fz i d ρ) fun ρ' => W.got (ixN ds.length z) fun j => W.ret (.nx, ρ'.set i (some (true, .lst (ds.set j d))))
theorem ds_lput {i : Nat} {x : Str} {k e : Expr} {mk m : Ro → W Ex D} {p pos' pos : Pos} (fz : List Nat) (hv : PE X (.Name x p) (tVar i)) (hk : DE G X Wx k mk) (he : DE G X Wx e m) (hg : PG X (.Subscript (.Name x p) k pos') (L2.gSub (tVar i) (tE G Wx mk) rSetL))
    (hs : swapsWithSole [.Subscript (.Name x p) k pos'] e pos.line X.env = pure false := by rfl) (hw : swappedStores [.Subscript (.Name x p) k pos'] e X.env = pure none := by rfl)
    (h1 : (assignEach [.Subscript (.Name x p) k pos'] X.env).map (·.2) = [assign (.Subscript (.Name x p) k pos') X.env] := by rfl) :
    DS G X Wx (.Assign [.Subscript (.Name x p) k pos'] e pos) (mLput fz i mk m) := by
  refine DS.imp (fun ρ => got_mono fun _ => (Mono.up (he.mono _)).bind fun d => (Mono.up (hk.mono _)).bind fun d => got_mono fun _ => got_mono fun _ => got_mono fun _ => W.Mono.ret) (ps_asg he.pe hg hs hw h1) fun H0 N0 ρ σ H D' r q => ?_
  obtain ⟨S, o⟩ := r.own
  obtain ⟨ds, hd, q⟩ := got_inv q
  have hd0 := slotL_inv hd
  refine he.inF r.same r.len o fz q fun d v H1 z s1 r1 => ?_
  have r' := r.step s1
  obtain ⟨a, ea, eS, vs, hvs, _⟩ := o.own i _ hd0
  refine ⟨.ref a, ea, hk.inS r' z fun kd vk H2 z r2 s2 rk => ?_⟩
  obtain ⟨zz, hz, z⟩ := got_inv z
  obtain ⟨ρ', ht, z⟩ := got_inv z
  obtain ⟨j, hj, z⟩ := got_inv z
  rw [asI_inv hz] at rk
  obtain rfl : vk = .int zz := rk
  obtain ⟨S', o', hl', hi', rv⟩ := o.take r.same (s1.trans s2) ht (r1.same s2)
  have hd' : ρ'[i]? = some (some (true, .lst ds)) := hi'.trans hd0
  obtain ⟨b, eb, eS', ws, hws, rs⟩ := o'.own i _ hd'
  rw [ea] at eb
  cases eb
  refine ⟨a, ws, zz, j, rfl, rfl, hws, by rw [rs.length]; exact hj, ?_⟩
  obtain ⟨u, hu, ku⟩ := o'.kind i a eS'
  have lx : LeX (Out N0 H0 S') H2 (upd H2 a (.lst (ws.set j v))) := LeX.upd hu ku (Out.notS eS')
  exact z _ _ ⟨SRel.upd ((r.same.trans s1).trans s2) o' eS', by rw [List.length_set, hl']; exact r.len, S', o'.mut hd' eS' ⟨_, upd_same, Reps.monoX (fun _ n _ => n) lx (rs.set rv)⟩⟩
end
end Fb
namespace Fb
open PySem PySem.Spec PyProof.Rows L2
theorem FunI.dflt {G : Wd} {x qual : Str} {st : Stmt} {f ed : Addr} {fd : FuncData} (F : FunI G.K x qual st f fd ed) (N : Addr → Prop) (H : Hp) : Reps G N H [.tup []] [.ref ed] := by
  obtain ⟨oe, ne, l, c, d⟩ := F.ed
  exact .one ⟨ed, [], rfl, .inr ⟨oe, #[], ne, l, c, d, Nat.zero_le _, .nil⟩, rfl⟩
end Fb
end

section
set_option Elab.async false
set_option linter.all false
set_option maxRecDepth 100000
set_option maxHeartbeats 4000000
/-! sep.join(xs), x.split(sep); C.m(..), m a classmethod; c(..), c a local. -/
namespace Fb
open PySem PySem.Spec PyProof.Rows L2
section
variable {G : Wd} {X : Cx} {Wx : WX}
def asS : D → Option Str
  | .str x => some x
  | _ => none
theorem asS_inv {d : D} {x : Str} (h : asS d = some x) : d = .str x := by
  cases d <;> first | (cases h; done) | skip
  cases h; rfl
def strsOf : List D → Option (List Str)
  | [] => some []
  | d :: r => match asS d, strsOf r with
    | some x, some ys => some (x :: ys)
    | _, _ => none
theorem strsOf_map : ∀ l : List Str, strsOf (l.map D.str) = some l
  | [] => rfl
  | x :: l => by
    show (match some x, strsOf (l.map D.str) with | some x, some ys => some (x :: ys) | _, _ => none) = _
    rw [strsOf_map l]
theorem strsOf_inv : ∀ {ds : List D} {ys : List Str}, strsOf ds = some ys → ds = ys.map D.str
  | [], ys, h => by cases h; rfl
  | d :: r, ys, h => by
    have h : (match asS d, strsOf r with | some x, some ys => some (x :: ys) | _, _ => none) = some ys := h
    rcases e : asS d with _ | x
    · rw [e] at h; cases h
    · rcases e2 : strsOf r with _ | zs
      · rw [e, e2] at h; cases h
      · rw [e, e2] at h
        cases h
        rw [asS_inv e, strsOf_inv e2]
        rfl
theorem Reps.strs {N : Addr → Prop} {H : Hp} : ∀ {ys : List Str} {vs : List V}, Reps G N H (ys.map D.str) vs → vs = ys.map V.str
  | [], _, h => h
  | y :: ys, _, ⟨w, ws, e, r, rs⟩ => by rw [e, show w = V.str y from r, Reps.strs rs]; rfl
theorem Reps.ofStrs {N : Addr → Prop} {H : Hp} : ∀ ys : List Str, Reps G N H (ys.map D.str) (ys.map V.str)
  | [] => rfl
  | y :: r => ⟨.str y, _, rfl, rfl, Reps.ofStrs r⟩
def seqOf : D → Option (List D)
  | .lst xs => some xs
  | .tup xs => some xs
  | _ => none
def mJoin (m n : Ro → W Ex D) : Ro → W Ex D := fun ρ => W.bind (m ρ) fun d => W.got (asS d) fun a => W.bind (n ρ) fun e => W.got (seqOf e) fun xs => W.got (strsOf xs) fun ys => if (ys.map (·.length)).sum + ys.length * a.length ≤ 16777216 then W.ret (.str (Txt.join a ys)) else W.fail
theorem de_join {o e : Expr} {m n : Ro → W Ex D} {apos pos : Pos} (Z : X.K = G.K) (ho : DE G X Wx o m) (he : DE G X Wx e n) (hs : starEach [e] X.env = [(false, eval e X.env)] := by rfl) (hbase : attributeBase o "join" X.env (eval o X.env) = eval o X.env := by rfl) (hline : (apos.endLine == pos.line) = true := by rfl) :
    DE G X Wx (.Call (.Attribute o "join" apos) [e] [] pos) (mJoin m n) := by
  refine DE.imp (fun ρ => (ho.mono ρ).bind fun d => got_mono fun a => (he.mono ρ).bind fun e => got_mono fun xs => got_mono fun ys => ite_mono W.Mono.ret W.Mono.fail) (pe_join ho.pe he.pe hs hbase hline) fun N ρ σ H Q rr q => ?_
  refine ho.go rr q (fun x z => z) fun d v H1 z s1 r1 rr1 => ?_
  obtain ⟨a, ha, z⟩ := got_inv z
  rw [asS_inv ha] at r1
  refine ⟨⟨a, r1⟩, he.go rr1 z (fun x z => z.step s1) fun e u H2 z s2 r2 _ => ?_⟩
  obtain ⟨xs, hx, z1⟩ := got_inv z
  obtain ⟨ys, hy, z2⟩ := got_inv z1
  obtain ⟨hb, z3⟩ := ite_ret z2
  have ex := strsOf_inv hy
  subst ex
  have fin : Q (.str (Txt.join a ys)) H2 := z3 (.str (Txt.join a ys)) H2 (s1.trans s2) rfl
  cases e <;> first | (cases hx; done) | skip
  · cases hx
    obtain ⟨p, vs, rfl, hp, rs⟩ := r2
    rw [rs.strs] at hp
    exact ⟨a, p, ys, r1, rfl, .inr (Z ▸ hp.sq), hb, fin⟩
  · cases hx
    obtain ⟨p, vs, rfl, _, hp, rs⟩ := r2
    rw [rs.strs] at hp
    exact ⟨a, p, ys, r1, rfl, .inl (.of hp), hb, fin⟩
def mSplit (m n : Ro → W Ex D) : Ro → W Ex (Bool × D) := fun ρ => W.bind (m ρ) fun d => W.got (asS d) fun a => W.bind (n ρ) fun e => W.got (asS e) fun b => if (b.length == 0) = false ∧ a.length + 2 ≤ sizeLine then W.ret (true, .lst ((Txt.split a b).map D.str)) else W.fail
theorem dr_split {o e : Expr} {m n : Ro → W Ex D} {apos pos : Pos} (ho : DE G X Wx o m) (he : DE G X Wx e n) (hs : starEach [e] X.env = [(false, eval e X.env)] := by rfl) (hbase : attributeBase o "split" X.env (eval o X.env) = eval o X.env := by rfl) (hline : (apos.endLine == pos.line) = true := by rfl) :
    DR G X Wx (.Call (.Attribute o "split" apos) [e] [] pos) (mSplit m n) := by
  refine DR.imp (fun ρ => (ho.mono ρ).bind fun d => got_mono fun a => (he.mono ρ).bind fun e => got_mono fun xs => ite_mono W.Mono.ret W.Mono.fail) (pe_split ho.pe he.pe hs hbase hline) fun N ρ σ H Q rr q => ?_
  refine ho.go rr q (fun x z => z) fun d v H1 z s1 r1 rr1 => ?_
  obtain ⟨a, ha, z⟩ := got_inv z
  rw [asS_inv ha] at r1
  refine ⟨⟨a, r1⟩, he.go rr1 z (fun x z => z.step s1) fun e u H2 z s2 r2 _ => ?_⟩
  obtain ⟨b, hb, z⟩ := got_inv z
  rw [asS_inv hb] at r2
  obtain ⟨⟨h1, h2⟩, z⟩ := ite_ret z
  refine ⟨a, b, r1, by rw [show u = V.str b from r2], h1, h2, fun p hp => ?_⟩
  exact new_lst (Reps.ofStrs (Txt.split a b)) (PoR.step (h := z) (s1.trans s2)) p hp
end
/-! ### classmethods -/
open ClX (CRead CMet getmethcm_ok callwith_cm base_none pin_at unpinE)
def asCls (c : Str) : D → Option Unit
  | .cls c' => if c' = c then some () else none
  | _ => none
theorem asCls_inv {c : Str} {d : D} {u : Unit} (h : asCls c d = some u) : d = .cls c := by
  cases d <;> first | (cases h; done) | skip
  rename_i c'
  by_cases e : c' = c
  · rw [e]
  · have h : (if c' = c then some () else none) = some u := h
    rw [if_neg e] at h; cases h
section
variable {P : Program} {w : World} {G : Wd} {base : Heap} {k j : Nat} {X : Cx} {Wx : WX}
theorem run_fndC {pins : List (Addr × Obj)} {σ : Fb.St} {H : Hp} {s : Shared} {Q : VK} {us : List Value} {vs : List V} {ds : List D} {N : Addr → Prop} {dvs : List V} {dus : List Value} {dds : List D} {f : Addr} {fd : FuncData} {ps : List Str} {sem : List D → Rt} (Z : Cz P w G base k X Wx) (F : FnD P w G base j f fd ps sem) (hj : j ≤ k) (hb : Binds X.K fd ps dus) (hd : Vals dvs dus)
    (I : Inv X pins σ H s) (tb : TabsG G H) (r : Vals vs us) (rd : Reps G N H (ds ++ dds) (vs ++ dvs)) (hl : (ds ++ dds).length = ps.length) (h : sem (ds ++ dds) (PoR G N H Q) (PoX G N Wx H σ)) :
    codeAny (model X.prog X.w) X.A (.call (.ref f) ⟨us, []⟩) (fun r s' => match r with | .ok (.ret v) => EP X pins σ Q v s' | .ok _ => False | .error e => X.xe e s') s := by
  obtain ⟨rfl, rfl, hK, hmg, rfl, hr, hg, tk⟩ := Z
  have r2 : Vals (vs ++ dvs) (us ++ dus) := r.append hd
  have lv : (vs ++ dvs).length = ps.length := rd.length.trans hl
  have lu : (us ++ dus).length = ps.length := r2.length.symm.trans lv
  have e0 : Env0 X.prog X.w G.K G.mg X.base X.A X.stack s H := by rw [← hK, ← hmg]; exact I.env0
  refine codeAny_mono (F.run X.A X.stack s H ⟨us, []⟩ (us ++ dus) (vs ++ dvs) (ds ++ dds) N Q (fun c dd H' => Wx c dd σ H') (hr.mono hj) hg e0 tb (hb s us I.kIn lu) r2 rd lv ((F.mono _).run (fun _ z => z) (fun x z => z) h)) fun r s' hq => ?_
  cases r with
  | error e => exact tk e s' (XE.of_call (E := fun c dd H' => Wx c dd σ H') I (fun cls d H' h => h) hq)
  | ok fl =>
    cases fl with
    | ret u => exact I.after hq
    | next => exact False.elim hq
    | brk => exact False.elim hq
    | cont => exact False.elim hq
def mCmeth (c : Str) (n : Nat) (sem : List D → Rt) (dds : List D) (m : Ro → W Ex D) (a : Ro → W Ex (List D)) : Ro → W Ex (Bool × D) := fun ρ => W.bind (m ρ) fun d => W.got (asCls c d) fun _ => W.bind (a ρ) fun ds => if (D.cls c :: (ds ++ dds)).length = n then sem (D.cls c :: (ds ++ dds)) else W.fail
theorem mCmeth_mono {c : Str} {n : Nat} {sem : List D → Rt} {dds : List D} {m : Ro → W Ex D} {a : Ro → W Ex (List D)} (hs : ∀ ds, W.Mono (sem ds)) (hm : ∀ ρ, W.Mono (m ρ)) (ha : ∀ ρ, W.Mono (a ρ)) (ρ : Ro) : W.Mono (mCmeth c n sem dds m a ρ) :=
  (hm ρ).bind fun d => got_mono fun fs => (ha ρ).bind fun ds => ite_mono (hs _) W.Mono.fail
/-- C.m(e, ..), m a classmethod -/
theorem dr_cmeth {o e : Expr} {es : List Expr} {mn c : Str} {C p g : Addr} {mc : Value} {fd : FuncData} {ps : List Str} {sem : List D → Rt} {m : Ro → W Ex D} {a : Ro → W Ex (List D)} {apos pos : Pos} {dvs : List V} {dus : List Value} {dds : List D} {pl : Sem Bool} (Z : Cz P w G base k X Wx) (T : G.mg c = some (.ref C)) (cr : CRead G.K C mc) (cm : CMet G.K C mc mn p g) (F : FnD P w G base j g fd ps sem) (hj : j ≤ k)
    (hb : Binds G.K fd ps dus) (hd : Vals dvs dus) (hr : ∀ N H, Reps G N H dds dvs) (ho : DE G X Wx o m) (ha : DA G X Wx (e :: es) a) (hst : starEach (e :: es) X.env = (false, eval e X.env) :: starEach es X.env := by rfl) (hpl : (backTo pos (starEach es X.env)).any (·.1) = false := by rfl)
    (ht : eval (.Call (.Attribute o mn apos) (e :: es) [] pos) X.env = (do
      let ov ← eval o X.env
      standAt apos.atName
      let (f, first) ← holding [ov] (getMethod ov mn pl)
      callWith pos f first (backTo pos (starEach (e :: es) X.env)) (backToKw pos (keywordEach [] X.env))) := by rfl) : DR G X Wx (.Call (.Attribute o mn apos) (e :: es) [] pos) (mCmeth c ps.length sem dds m a) := by
  have Z0 := Z
  obtain ⟨rfl, rfl, hK, hmg, rfl, hrm, hg, tk⟩ := Z
  refine ⟨⟨fun pins s σ H Q I ⟨N, ρ, rr, q⟩ => ?_⟩, mCmeth_mono F.mono ho.mono ha.mono⟩
  refine PySem.W.methodCall_KW (pl := pl) (thn (ho.pe.run pins s σ H (fun x H1 => x = .ref C ∧ Same G H H1 ∧ (W.bind (a ρ) fun ds => if (D.cls c :: (ds ++ dds)).length = ps.length then sem (D.cls c :: (ds ++ dds)) else W.fail) (PoR G N H Q) (PoX G N Wx H σ)) I ⟨N, ρ, rr, (ho.mono ρ).run (fun d z v H1 s1 r1 => ?_) (fun x z => z) q⟩) fun u s1 ⟨x, H1, I1, rx, ex, s1', z⟩ => ?_) ht
  · obtain ⟨_, hd', z⟩ := got_inv z
    rw [asCls_inv hd'] at r1
    obtain ⟨C', ev, hmm⟩ := r1
    rw [T] at hmm
    cases hmm
    exact ⟨ev, s1, z⟩
  · subst ex
    obtain rfl : u = Value.ref C := rx
    refine getmethcm_ok I1 (hK ▸ cr) (hK ▸ cm) fun s2 I2 => ?_
    have go := ha.pa.run pos _ s2 σ H1 (fun vs H2 => ∃ ds, Reps G (Fr N H) H2 ds vs ∧ (D.cls c :: (ds ++ dds)).length = ps.length ∧ Same G H1 H2 ∧ sem (D.cls c :: (ds ++ dds)) (PoR G N H Q) (PoX G N Wx H σ)) I2 ⟨N, ρ, rr.same s1', (ha.mono ρ).run (fun ds z vs H2 s2 r2 => by
      by_cases hl : (D.cls c :: (ds ++ dds)).length = ps.length
      · exact ⟨ds, r2.sub fun _ y => y.step s1', hl, s2, by simpa only [if_pos hl] using z⟩
      · have z' : (W.fail : Rt) (PoR G N H Q) (PoX G N Wx H σ) := by simpa only [if_neg hl] using z
        exact z'.elim) (fun x z => z.step s1') z⟩
    refine callwith_cm I2 (base_none I1 (Nat.le_refl _)) (hK ▸ cm.fi) (thn go fun us s3 ⟨vs, H2, I3, rv, q2⟩ => ⟨⟨pin_at I3, I3.kIn⟩, ?_⟩) hst hpl
    obtain ⟨ds, r2, hl, s2', z⟩ := q2
    have zz := wpAny_call (PySem.W.method_call (pin_at I3) (run_fndC (ds := D.cls c :: ds) (vs := .ref C :: vs) (us := .ref C :: us) Z0 F hj (hK ▸ hb) hd I3 (s2'.tab (s1'.tab rr.tab)) (.cons rfl rv) (.cons (show Rep G (Fr N H) H2 (.cls c) (.ref C) from ⟨C, rfl, T⟩) (r2.app (hr _ _))) hl ((F.mono _).run (fun _ y => y.step (s1'.trans s2')) (fun _ y => y.step2 (s1'.trans s2')) z)))
    exact thn zz fun _ _ y => unpinE y
/-- c(e, ..), c a local that holds a class -/
def mMakeV (c : Str) (n : Nat) (sem : List D → If) (dds : List D) (i : Nat) (a : Ro → W Ex (List D)) : Ro → W Ex (Bool × D) := fun ρ => W.bind (mVar i ρ) fun d => W.got (asCls c d) fun _ => mMake c n sem dds a ρ
theorem dr_makeV {c x : Str} {i : Nat} {e : Expr} {es : List Expr} {C f : Addr} {fd : FuncData} {ps : List Str} {sem : List D → If} {a : Ro → W Ex (List D)} {p pos : Pos} {dvs : List V} {dus : List Value} {dds : List D} (Z : Cz P w G base k X Wx) (T : G.mg c = some (.ref C)) (M : Mk G.K C f) (F : FnI P w G base j f fd ps C sem) (hj : j + 1 ≤ k)
    (hb : Binds G.K fd ps dus) (hd : Vals dvs dus) (hrd : ∀ N H, Reps G N H dds dvs) (hv : DE G X Wx (.Name x p) (mVar i)) (ha : DA G X Wx (e :: es) a) (he : starEach (e :: es) X.env = (false, eval e X.env) :: starEach es X.env := by rfl) (hpl : (backTo pos (starEach es X.env)).any (·.1) = false := by rfl) :
    DR G X Wx (.Call (.Name x p) (e :: es) [] pos) (mMakeV c ps.length sem dds i a) := by
  refine ⟨⟨fun pins s σ H Q I ⟨N, ρ, rr, q⟩ => ?_⟩, fun ρ => (hv.mono ρ).bind fun d => got_mono fun _ => mMake_mono F.mono ha.mono ρ⟩
  refine wpAny_Call_Name_kw (thn (hv.pe.run pins s σ H (fun x H1 => x = .ref C ∧ Same G H H1 ∧ mMake c ps.length sem dds a ρ (PoR G N H Q) (PoX G N Wx H σ)) I ⟨N, ρ, rr, (hv.mono ρ).run (fun d z v H1 s1 r1 => ?_) (fun x z => z) q⟩) fun u s1 ⟨x, H1, I1, rx, ex, s1', z⟩ => ?_)
  · obtain ⟨_, hd', z⟩ := got_inv z
    rw [asCls_inv hd'] at r1
    obtain ⟨C', ev, hmm⟩ := r1
    rw [T] at hmm
    cases hmm
    exact ⟨ev, s1, z⟩
  · subst ex
    obtain rfl : u = Value.ref C := rx
    have go := ha.pa.run pos pins s1 σ H1 (fun vs H2 => ∃ ds, Reps G (Fr N H) H2 ds vs ∧ (ds ++ dds).length + 1 = ps.length ∧ Same G H H2 ∧ sem (ds ++ dds) (fun fs => PoR G N H Q (false, .ins c fs)) (PoX G N Wx H σ)) I1 ⟨N, ρ, rr.same s1', (ha.mono ρ).run (fun ds z vs H2 s2 r1 => by
      by_cases hl : (ds ++ dds).length + 1 = ps.length
      · have z' : (W.bind (sem (ds ++ dds)) fun fs => W.ret (false, D.ins c fs)) (PoR G N H Q) (PoX G N Wx H σ) := by simpa only [if_pos hl] using z
        exact ⟨ds, r1.sub fun _ y => y.step s1', hl, s1'.trans s2, z'⟩
      · have z' : (W.fail : Rt) (PoR G N H Q) (PoX G N Wx H σ) := by simpa only [if_neg hl] using z
        exact z'.elim) (fun x z => z.step s1') z⟩
    refine PySem.W.callWith_K (h₀ := X.base) I1.ok.mod.kin (Z.K ▸ M.kp) (thn go fun us s2 ⟨vs, H2, I2, r, q1⟩ => ⟨I2.kIn, ?_⟩) he hpl
    obtain ⟨ds, r1, hl, s2', z⟩ := q1
    exact run_mk Z T M F hj hb hd I2 (s2'.tab rr.tab) r (r1.app (hrd _ _)) hl ((F.mono _).run (fun _ y => PoR.step (h := y) s2') (fun _ y => y.step2 s2') z)
end
end Fb
end

section
set_option Elab.async false
set_option linter.all false
set_option maxRecDepth 100000
set_option maxHeartbeats 4000000
/-! list(d.items()), list(range(..)), repr(x), dict(xs). -/
namespace Fb
open PySem PySem.Spec PyProof.Rows L2
section
variable {G : Wd} {X : Cx} {Wx : WX}
/-- .. of a dict, locked or not -/
def tLi (te : TE) : TE := fun σ H Q => te σ H fun x H1 => ∃ (d : Addr) (kvs : List (Key × V)), x = .ref d ∧ Rd H1 d (.dK kvs) ∧ ∀ (H' : Hp) (p : Addr) (ts : List Addr), (∀ b o, H1 b = some o → H' b = some o) → H1 p = none → (∀ t ∈ ts, H1 t = none) → p ∉ ts → H' p = some (.lst (ts.map V.ref)) → Paired (fun (t : Addr) (q : Key × V) => H' t = some (.tup [kV q.1, q.2])) ts kvs → Q (.ref p) H'
theorem pe_listItemsR {e : Expr} {te : TE} {p apos cpos pos : Pos} (hc : X.calm = true) (he : PE X e te) (hg : Gl X "list") (hm : X.mg "list" = none) (hv : bootBuiltins "list" = some (.type "list")) (hbase : attributeBase e "items" X.env (eval e X.env) = eval e X.env := by rfl) (hline : (apos.endLine == cpos.line) = true := by rfl)
    (hs : starEach [.Call (.Attribute e "items" apos) [] [] cpos] X.env = (false, eval (.Call (.Attribute e "items" apos) [] [] cpos) X.env) :: starEach [] X.env := by rfl) :
    PE X (.Call (.Name "list" p) [.Call (.Attribute e "items" apos) [] [] cpos] [] pos) (tLi te) := by
  refine ⟨fun pins s σ H Q I hq => ?_⟩
  refine wpAny_Call_Name_kw (ld_blt I hg hm hv ?_)
  refine PyProof.Rows.callWith_type1 ?_ hs rfl
  rw [hs]
  show wpAny _ _ (spliced ((false, eval (.Call (.Attribute e "items" apos) [] [] cpos) X.env) :: backTo pos (starEach [] X.env))) _ _ s
  refine Calls.spliced_cons ?_
  refine wpAny_Call_method (T := "dict") (id := "dict.items") hbase rfl hline F.plainAttrs_dict F.slot_dict_items F.type_dict_items (thn (he.run pins s σ H _ I hq) fun u s1 ⟨x, H1, I1, rx, d, kvs, ex, hd, q⟩ => ?_)
  subst ex
  obtain rfl : u = Value.ref d := rx
  have ok : ∃ (hz : kvs.length ≤ sizeLine), ObjOk X.prog X.w H1 s1.heap d (.dK kvs) := by
    rcases hd with hd | ⟨o, hd⟩
    · have z := I1.hok d _ hd
      exact ⟨z.1, z⟩
    · obtain ⟨_, z⟩ := I1.hok d _ hd
      exact ⟨z.1, z⟩
  obtain ⟨_, hz, hs0, vs, kv, hdo⟩ := ok
  obtain ⟨ep, hat⟩ := hdo.dictAt
  have lk : kvs.length = vs.length := Paired.length kv
  have I2 : Inv X pins σ H1 { s1 with heap := s1.heap.push { cls := .type "dict_items", data := .fields #[.ref d] } } := I1.kept (t' := s1.toks) fun b ob q => Heap.get?_push_of_some _ q
  refine ⟨hdo.typeIs, hdo.mapOf.noDict, ?_⟩
  show wpAny _ _ (callWith cpos (.builtin "dict.items") [.ref d] [] []) _ X.xe s1
  refine method_meetsIn F.slot_dict_items F.entry_dict_items rfl (PySem.evalArgs_none ⟨rfl, hdo.typeIs, F.args_dict_items_1 _, _, meets_dict_items (mixKind X.prog X.w) d hs0, ⟨vs, hdo⟩, ?_⟩)
  refine Calls.spliced_nil ?_
  refine PySem.W.kdx_call (knd := mixKind X.prog X.w) (kvs := vs) (ep := ep) (I1.ok.hd hc) ⟨_, Heap.get?_push_size _ rfl, rfl, rfl⟩ (hat.push _) (by omega) fun h' tk acc c as hk hS hl hG hacc => ?_
  obtain ⟨H', k1, k2, k3, k4, k5, k6, J⟩ := LiI.items_laid (tk := tk) I2 hz kv hk hS hl hG hacc
  exact ⟨.ref _, H', J, rfl, q H' _ as k1 k2 k3 k4 k5 k6⟩
theorem reps_pairs {N : Addr → Prop} {H H' : Hp} (s : Same G H H') : ∀ {kvs : List (Key × D)} {ks : List (Key × V)} {ts : List Addr}, RepK G N H kvs ks → Paired (fun (t : Addr) (q : Key × V) => H' t = some (.tup [kV q.1, q.2])) ts ks → Reps G N H' (kvs.map Fb.pairD) (ts.map V.ref)
  | [], _, _, r, p => by
    rw [show _ = [] from r] at p
    cases p; exact rfl
  | (k, d) :: kvs, _, _, ⟨w, ws, e, r, rs⟩, p => by
    subst e
    cases p with
    | cons h t => exact .cons ⟨_, _, rfl, .inl h, kV k, [w], rfl, keyD_rep k, .one (r.same s)⟩ (reps_pairs s rs t)
def mListItems (m : Ro → W Ex D) : Ro → W Ex (Bool × D) := fun ρ => W.bind (m ρ) fun d => W.got (asK d) fun kvs => W.ret (true, .lst (kvs.map Fb.pairD))
theorem dr_listItems {e : Expr} {m : Ro → W Ex D} {p apos cpos pos : Pos} (hc : X.calm = true) (Z : X.mg = G.mg) (hg : Gl X "list") (hm : G.mg "list" = none) (he : DE G X Wx e m) (hbase : attributeBase e "items" X.env (eval e X.env) = eval e X.env := by rfl) (hline : (apos.endLine == cpos.line) = true := by rfl)
    (hs : starEach [.Call (.Attribute e "items" apos) [] [] cpos] X.env = (false, eval (.Call (.Attribute e "items" apos) [] [] cpos) X.env) :: starEach [] X.env := by rfl) :
    DR G X Wx (.Call (.Name "list" p) [.Call (.Attribute e "items" apos) [] [] cpos] [] pos) (mListItems m) := by
  refine DR.imp (fun ρ => (he.mono ρ).bind fun d => got_mono fun _ => W.Mono.ret) (pe_listItemsR hc he.pe hg (Z ▸ hm) (by decide +kernel) hbase hline hs) fun N ρ σ H Q rr q => ?_
  refine he.go rr q (fun x z => z) fun d v H1 z s1 r1 _ => ?_
  obtain ⟨kvs, hk, z⟩ := got_inv z
  rw [asK_inv hk] at r1
  obtain ⟨a, ks, rfl, na, ha, rk⟩ := r1
  refine ⟨a, ks, rfl, ha, fun H' p ts k1 k2 k3 k4 k5 k6 => ?_⟩
  have s2 : Same G H1 H' := .of k1
  have rp : Reps G (fun b => Fr N H b ∧ H1 b ≠ none) H1 [] [] := rfl
  have rk' : RepK G (fun b => Fr N H b ∧ H1 b ≠ none) H1 kvs ks := RepK.mono (fun b n y => ⟨n, y⟩) (Le.refl H1) rk
  have rs := reps_pairs s2 rk' k6
  have hp : H p = none := s1.free k2
  refine z (.ref p) H' (s1.trans s2) ⟨p, _, rfl, .inr hp, k5, rs.sub fun b y => y.1⟩ fun _ => ⟨p, rfl, hp, _, k5, rs.sub fun b y => ⟨y.1, fun e => y.2 (e ▸ k2)⟩⟩
/-! ### list(range(..)) -/
instance (a b : Int) : Decidable (RgOk a b) := by unfold RgOk; exact inferInstance
def mListRg1 (m : Ro → W Ex D) : Ro → W Ex (Bool × D) := fun ρ => W.bind (m ρ) fun d => W.got (asI d) fun j => if RgOk 0 j then W.ret (true, .lst (rngD 0 (j - 0).toNat)) else W.fail
def mListRg2 (m n : Ro → W Ex D) : Ro → W Ex (Bool × D) := fun ρ => W.bind (m ρ) fun d => W.got (asI d) fun i => W.bind (n ρ) fun e => W.got (asI e) fun j => if RgOk i j then W.ret (true, .lst (rngD i (j - i).toNat)) else W.fail
theorem Reps.ofRg {N : Addr → Prop} {H : Hp} (i : Int) (n : Nat) : Reps G N H (rngD i n) ((List.range n).map fun k => V.int (i + (k : Nat))) := by
  unfold rngD
  induction List.range n with
  | nil => exact rfl
  | cons a l ih => exact .cons rfl ih
theorem dr_listRg1 {a : Expr} {m : Ro → W Ex D} {p p2 pos pos2 : Pos} (hc : X.calm = true) (Z : X.mg = G.mg) (hg : Gl X "list") (hm : G.mg "list" = none) (hg2 : Gl X "range") (hm2 : G.mg "range" = none) (ha : DE G X Wx a m) (n1 : starEach [a] X.env = (false, eval a X.env) :: starEach [] X.env := by rfl)
    (na : starEach [.Call (.Name "range" p2) [a] [] pos2] X.env = (false, eval (.Call (.Name "range" p2) [a] [] pos2) X.env) :: starEach [] X.env := by rfl) : DR G X Wx (.Call (.Name "list" p) [.Call (.Name "range" p2) [a] [] pos2] [] pos) (mListRg1 m) := by
  refine DR.imp (fun ρ => (ha.mono ρ).bind fun d => got_mono fun _ => ite_mono W.Mono.ret W.Mono.fail) (pe_listRg hc hg (Z ▸ hm) (prg_1 hg2 (Z ▸ hm2) ha.pe n1) na) fun N ρ σ H Q rr q => ?_
  refine ha.go rr q (fun x z => z) fun d v H1 z s1 r1 _ => ?_
  obtain ⟨j, hj, z⟩ := got_inv z
  obtain ⟨ok, z⟩ := ite_ret z
  rw [asI_inv hj] at r1
  exact ⟨j, r1, ok, fun q hq => new_lst (Reps.ofRg 0 (j - 0).toNat) (PoR.step (h := z) s1) q hq⟩
theorem dr_listRg2 {a b : Expr} {m n : Ro → W Ex D} {p p2 pos pos2 : Pos} (hc : X.calm = true) (Z : X.mg = G.mg) (hg : Gl X "list") (hm : G.mg "list" = none) (hg2 : Gl X "range") (hm2 : G.mg "range" = none) (ha : DE G X Wx a m) (hb : DE G X Wx b n) (n1 : starEach [a, b] X.env = (false, eval a X.env) :: starEach [b] X.env := by rfl)
    (n2 : starEach [b] X.env = (false, eval b X.env) :: starEach [] X.env := by rfl) (hp : (backTo pos2 (starEach [b] X.env)).any (·.1) = false := by rfl)
    (na : starEach [.Call (.Name "range" p2) [a, b] [] pos2] X.env = (false, eval (.Call (.Name "range" p2) [a, b] [] pos2) X.env) :: starEach [] X.env := by rfl) : DR G X Wx (.Call (.Name "list" p) [.Call (.Name "range" p2) [a, b] [] pos2] [] pos) (mListRg2 m n) := by
  refine DR.imp (fun ρ => (ha.mono ρ).bind fun d => got_mono fun _ => (hb.mono ρ).bind fun _ => got_mono fun _ => ite_mono W.Mono.ret W.Mono.fail) (pe_listRg hc hg (Z ▸ hm) (prg_2 hg2 (Z ▸ hm2) ha.pe hb.pe n1 n2 hp) na) fun N ρ σ H Q rr q => ?_
  refine ha.go rr q (fun x z => z) fun d v H1 z s1 r1 rr1 => ?_
  obtain ⟨i, hi, z⟩ := got_inv z
  refine hb.go rr1 z (fun x z => z.step s1) fun e u H2 z s2 r2 _ => ?_
  obtain ⟨j, hj, z⟩ := got_inv z
  obtain ⟨ok, z⟩ := ite_ret z
  rw [asI_inv hi] at r1
  rw [asI_inv hj] at r2
  exact ⟨i, j, r1, r2, ok, fun q hq => new_lst (Reps.ofRg i (j - i).toNat) (PoR.step (h := z) (s1.trans s2)) q hq⟩
/-! ### repr -/
def shownOk (p : PyData) : Bool := p.showable && !p.hasDict && isDisplay p && decide (p.depth ≤ 60) && decide (p.shown.length ≤ sizeLine)
def gRepr : List D → Rt
  | [.bl b] => W.ret (false, .str (if b then "True" else "False"))
  | [.lst xs] => W.got (D.lst xs).py fun p => if shownOk p = true then W.ret (false, .str p.shown) else W.fail
  | [.tup xs] => W.got (D.tup xs).py fun p => if shownOk p = true then W.ret (false, .str p.shown) else W.fail
  | _ => W.fail
theorem gRepr_mono (ds : List D) : W.Mono (gRepr ds) := by
  unfold gRepr
  split <;> first | exact W.Mono.ret | exact got_mono fun _ => ite_mono W.Mono.ret W.Mono.fail | exact W.Mono.fail
theorem bl_repr (Z : X.K = G.K) (hg : X.A.guards = some []) (hu : X.A.units + 65 < cLine) : CallR X (.builtin "repr") (rD G gRepr) := by
  intro pins s σ H xs us Q I r h
  obtain ⟨N, ds, rr, q⟩ := h
  have main : ∀ (d : D) (v : V) (u : Value) (a : Addr) (p : PyData), Rep G N H d v → RelV v u → v = .ref a → d.py = some p → shownOk p = true → PoR G N H Q (false, .str p.shown) → wpAny (model X.prog X.w) X.A (call (.builtin "repr") [u]) (EP X pins σ Q) X.xe s := by
    intro d v u a p rd rv ev hp ok z
    unfold shownOk at ok
    simp only [Bool.and_eq_true, decide_eq_true_eq, Bool.not_eq_true'] at ok
    obtain ⟨⟨⟨⟨h1, h2⟩, h3⟩, h4⟩, h5⟩ := ok
    obtain ⟨as, re⟩ := Dp.reads I p v u (Z ▸ rd.dp hp) rv
    subst ev
    obtain rfl : u = Value.ref a := rv
    refine repr_of_reads' re h1 (fun e => by rw [h2] at e; cases e) hg (by omega) (fun _ _ e => e) (fun h' w tk hk => ?_) h5
    exact ⟨.str p.shown, H, I.kept (t' := tk) hk, ⟨w, rfl⟩, z (.str p.shown) H (Same.refl H) rfl fun y => nomatch y⟩
  unfold gRepr at q
  split at q
  · rename_i b
    obtain ⟨v, rfl, r1⟩ := rr.one_inv
    obtain ⟨u, rfl, rv⟩ := vals1 r
    obtain rfl : v = .bl b := r1
    obtain rfl : u = Value.bool b := rv
    refine P.repr_of_bool ?_
    exact ⟨.str (if b then "True" else "False"), H, I.kept (t' := s.toks + 1) fun _ _ e => e, ⟨_, rfl⟩, q (.str (if b then "True" else "False")) H (Same.refl H) rfl fun y => nomatch y⟩
  · rename_i xs
    obtain ⟨p, hp, q⟩ := got_inv q
    obtain ⟨ok, q⟩ := ite_ret q
    obtain ⟨v, rfl, r1⟩ := rr.one_inv
    obtain ⟨u, rfl, rv⟩ := vals1 r
    obtain ⟨a, vs, ev, n, ha, rs⟩ := r1
    exact main (.lst xs) v u a p ⟨a, vs, ev, n, ha, rs⟩ rv ev hp ok q
  · rename_i xs
    obtain ⟨p, hp, q⟩ := got_inv q
    obtain ⟨ok, q⟩ := ite_ret q
    obtain ⟨v, rfl, r1⟩ := rr.one_inv
    obtain ⟨u, rfl, rv⟩ := vals1 r
    obtain ⟨a, vs, ev, ha, rs⟩ := r1
    exact main (.tup xs) v u a p ⟨a, vs, ev, ha, rs⟩ rv ev hp ok q
  · exact q.elim
/-! ### dict of pairs -/
def asPair : D → Option (Key × D)
  | .tup [k, v] => (keyOf k).map fun k => (k, v)
  | _ => none
def pairsOf : List D → Option (List (Key × D))
  | [] => some []
  | d :: r => match asPair d, pairsOf r with
    | some x, some ys => some (x :: ys)
    | _, _ => none
def mergeD (kvs more : List (Key × D)) : List (Key × D) := more.foldl (fun acc kv => putD acc kv.1 kv.2) kvs
def gDictP : List D → Rt
  | [.dic kvs] => W.ret (true, .dic kvs)
  | [.lst ds] => W.got (pairsOf ds) fun kvs => W.ret (true, .dic (mergeD [] kvs))
  | _ => W.fail
theorem gDictP_mono (ds : List D) : W.Mono (gDictP ds) := by
  unfold gDictP
  split <;> first | exact W.Mono.ret | exact got_mono fun _ => W.Mono.ret | exact W.Mono.fail
theorem RepK.merge {N : Addr → Prop} {H : Hp} : ∀ {more : List (Key × D)} {mk : List (Key × V)} {kvs : List (Key × D)} {ks : List (Key × V)}, RepK G N H more mk → RepK G N H kvs ks → RepK G N H (mergeD kvs more) (mergeK ks mk)
  | [], _, _, _, h, r => by rw [show _ = [] from h]; exact r
  | (k, d) :: more, _, kvs, ks, ⟨w, ws, e, r, rs⟩, r0 => by
    subst e
    exact RepK.merge (more := more) (mk := ws) (kvs := putD kvs k d) (ks := putK ks k w) rs (RepK.put r r0)
theorem asPair_inv {d : D} {x : Key × D} (h : asPair d = some x) : ∃ k, keyOf k = some x.1 ∧ d = .tup [k, x.2] := by
  unfold asPair at h
  split at h
  · rename_i k v
    rcases e : keyOf k with _ | y
    · rw [e] at h; cases h
    · rw [e] at h; cases h; exact ⟨k, e, rfl⟩
  · cases h
theorem pairs_reps {N : Addr → Prop} {H : Hp} : ∀ {ds : List D} {kvs : List (Key × D)} {vs : List V}, pairsOf ds = some kvs → Reps G N H ds vs → ∃ (ps : List Addr) (ks : List (Key × V)), vs = ps.map V.ref ∧ Paired (fun p kv => SqT G.K H p [kV kv.1, kv.2]) ps ks ∧ RepK G N H kvs ks
  | [], kvs, vs, e, r => by
    cases e
    rw [show vs = [] from r]
    exact ⟨[], [], rfl, .nil, rfl⟩
  | d :: ds, kvs, _, e, ⟨w, ws, ev, r, rs⟩ => by
    have e : (match asPair d, pairsOf ds with | some x, some ys => some (x :: ys) | _, _ => none) = some kvs := e
    rcases e1 : asPair d with _ | x
    · rw [e1] at e; cases e
    · rcases e2 : pairsOf ds with _ | ys
      · rw [e1, e2] at e; cases e
      · rw [e1, e2] at e
        cases e
        obtain ⟨ps, ks, h1, h2, h3⟩ := pairs_reps e2 rs
        obtain ⟨k, hk, ed⟩ := asPair_inv e1
        subst ed
        obtain ⟨a, us, rfl, ha, u1, t1, rfl, rk, u2, t2, rfl, rv, rfl⟩ := r
        rw [rk.key hk] at ha
        exact ⟨a :: ps, (x.1, u2) :: ks, by rw [ev, h1]; rfl, .cons ha.sq h2, ⟨u2, ks, rfl, rv, h3⟩⟩
theorem bl_dictP (hc : X.calm = true) (Z : X.K = G.K) : CallR X (.type "dict") (rD G gDictP) := by
  intro pins s σ H xs us Q I r h
  obtain ⟨N, ds, rr, q⟩ := h
  unfold gDictP at q
  split at q
  · obtain ⟨v, rfl, a, vs, rfl, n, e, rs⟩ := rr.one_inv
    exact call_dictD pins s σ H _ us Q I r ⟨a, vs, rfl, e, fun l hl => new_dic rs q l hl⟩
  · rename_i ds
    obtain ⟨kvs, hk, q⟩ := got_inv q
    obtain ⟨v, rfl, a, vs, rfl, n, e, rs⟩ := rr.one_inv
    obtain ⟨ps, ks, rfl, hp, rk⟩ := pairs_reps hk rs
    exact call_dictP hc pins s σ H _ us Q I r ⟨a, ps, ks, rfl, .of e, Z ▸ hp, fun l hl => new_dic (RepK.merge rk (show RepK G N H [] [] from rfl)) q l hl⟩
  · exact q.elim
end
end Fb
namespace Fb
open PySem PySem.Spec PyProof.Rows L2
/-- a class by its name -/
theorem dcl {P : Program} {w : World} {G : Wd} {base : Heap} {k : Nat} {X : Cx} {Wx : WX} {x : Str} {C : Addr} {pos : Pos} (Z : Cz P w G base k X Wx) (hg : Gl X x) (hm : G.mg x = some (.ref C)) (hd : (x == ("__debug__" : Str)) = false := by decide) : DE G X Wx (.Name x pos) (mC (.cls x)) :=
  de_const (v := .ref C) (pe_glob hg (Z.mg ▸ hm) rfl hd) fun _ _ => ⟨C, rfl, hm⟩
end Fb
end

section
set_option Elab.async false
set_option linter.all false
set_option maxRecDepth 100000
set_option maxHeartbeats 4000000
/-! for a, b in zip(xs, ys); [.. for k, v in d.items()] of a dict in a slot. -/
namespace Fb
open PySem PySem.Spec PyProof.Rows L2
section
variable {G : Wd} {X : Cx} {Wx : WX}
def zipD (xs ys : List D) : List D := (xs.zip ys).map fun q => .tup [q.1, q.2]
theorem zip_some {xs ys : List D} {i : Nat} {d : D} (h : (zipD xs ys)[i]? = some d) : ∃ x y, xs[i]? = some x ∧ ys[i]? = some y ∧ d = .tup [x, y] := by
  unfold zipD at h
  rw [List.getElem?_map] at h
  obtain ⟨⟨x, y⟩, h1, h2⟩ := Option.map_eq_some_iff.mp h
  rw [List.getElem?_zip_eq_some] at h1
  exact ⟨x, y, h1.1, h1.2, h2.symm⟩
theorem zip_none {xs ys : List D} {i : Nat} (h : (zipD xs ys)[i]? = none) : xs.length ≤ i ∨ ys.length ≤ i := by
  unfold zipD at h
  have := List.getElem?_eq_none_iff.mp h
  rw [List.length_map, List.length_zip] at this
  omega
theorem zip_made {N : Addr → Prop} {H : Hp} {T : Addr} {x y : D} {v w : V} (h : H T = none) (r1 : Rep G N H x v) (r2 : Rep G N H y w) : Same G H (upd H T (.tup [v, w])) ∧ Rep G N (upd H T (.tup [v, w])) (.tup [x, y]) (.ref T) := by
  have s2 : Same G H (upd H T (.tup [v, w])) := Same.updN (Same.refl H) h
  exact ⟨s2, T, _, rfl, .inl upd_same, v, [w], rfl, r1.same s2, .one (r2.same s2)⟩
theorem serves_zipL {K : PySem.W.Frag} {N : Addr → Prop} {H : Hp} {a b : Addr} {ds es : List D} {vs ws : List V} (n : N a) (m : N b) (h : H a = some (.lst vs)) (k : H b = some (.lst ws)) (r : Reps G N H ds vs) (q : Reps G N H es ws) : Serves G N (Itz K a b) (zipD ds es) H := fun HP p i H' s => by
  have h' : SqL K H' a vs := .of (s.at (p.has a _ h (.inl n)))
  have k' : SqL K H' b ws := .of (s.at (p.has b _ k (.inl m)))
  have r' := (r.part p).same s
  have q' := (q.part p).same s
  refine ⟨fun d e => ?_, fun e => ⟨vs, ws, h', k', ?_⟩⟩
  · obtain ⟨x, y, ex, ey, rfl⟩ := zip_some e
    obtain ⟨v, e1, r1⟩ := r'.get' ex
    obtain ⟨w, e2, r2⟩ := q'.get' ey
    refine ⟨⟨vs, ws, v, w, h', k', e1, e2⟩, fun z H'' y => ?_⟩
    obtain ⟨T, v', w', y1, y2, y3, y4, y5⟩ := (show ∃ T x' y', z = .ref T ∧ H' T = none ∧ H'' = upd H' T (.tup [x', y']) ∧ (∀ xs, SqL K H' a xs → xs[i]? = some x') ∧ ∀ ys, SqL K H' b ys → ys[i]? = some y' from y)
    have t1 := y4 vs h'
    have t2 := y5 ws k'
    rw [e1] at t1
    rw [e2] at t2
    cases t1
    cases t2
    subst y1 y3
    exact zip_made y2 r1 r2
  · rw [r.length, q.length]
    exact zip_none e
theorem serves_zipT {N : Addr → Prop} {H : Hp} {a b : Addr} {ds es : List D} {vs ws : List V} (h : TupAt G.K H a vs) (k : TupAt G.K H b ws) (r : Reps G N H ds vs) (q : Reps G N H es ws) : Serves G N (RZ.ItzT G.K a b) (zipD ds es) H := fun HP p i H' s => by
  have h' : SqT G.K H' a vs := ((Le.of s).tupT (p.has.tupT h)).sq
  have k' : SqT G.K H' b ws := ((Le.of s).tupT (p.has.tupT k)).sq
  have r' := (r.part p).same s
  have q' := (q.part p).same s
  refine ⟨fun d e => ?_, fun e => ⟨vs, ws, h', k', ?_⟩⟩
  · obtain ⟨x, y, ex, ey, rfl⟩ := zip_some e
    obtain ⟨v, e1, r1⟩ := r'.get' ex
    obtain ⟨w, e2, r2⟩ := q'.get' ey
    refine ⟨⟨vs, ws, v, w, h', k', e1, e2⟩, fun z H'' y => ?_⟩
    obtain ⟨T, v', w', y1, y2, y3, y4, y5⟩ := (show ∃ T x' y', z = .ref T ∧ H' T = none ∧ H'' = upd H' T (.tup [x', y']) ∧ (∀ xs, SqT G.K H' a xs → xs[i]? = some x') ∧ ∀ ys, SqT G.K H' b ys → ys[i]? = some y' from y)
    have t1 := y4 vs h'
    have t2 := y5 ws k'
    rw [e1] at t1
    rw [e2] at t2
    cases t1
    cases t2
    subst y1 y3
    exact zip_made y2 r1 r2
  · rw [r.length, q.length]
    exact zip_none e
def zippedD : List D → W Ex (List D)
  | [.lst xs, .lst ys] => W.ret (zipD xs ys)
  | [.tup xs, .tup ys] => W.ret (zipD xs ys)
  | _ => W.fail
theorem zippedD_mono (ds : List D) : W.Mono (zippedD ds) := by
  unfold zippedD
  split <;> first | exact W.Mono.ret | exact W.Mono.fail
theorem zippedD_inv {ds : List D} {Q : List D → Prop} {E : Ex → Prop} (h : zippedD ds Q E) : ∃ xs ys, (ds = [.lst xs, .lst ys] ∨ ds = [.tup xs, .tup ys]) ∧ Q (zipD xs ys) := by
  unfold zippedD at h
  split at h
  · exact ⟨_, _, .inl rfl, h⟩
  · exact ⟨_, _, .inr rfl, h⟩
  · exact h.elim
def mZip (m : Ro → W Ex (List D)) : Ro → W Ex (List D) := fun ρ => W.bind (m ρ) zippedD
theorem di_zip {e e2 : Expr} {m : Ro → W Ex (List D)} {p pos tpos : Pos} {elts : List Expr} {kk : Nat} (ZK : X.K = G.K) (Z : X.mg = G.mg) (hg : Gl X "zip") (hm : G.mg "zip" = none) (ha : DA G X Wx [e, e2] m) (hs : starEach [e, e2] X.env = (false, eval e X.env) :: starEach [e2] X.env := by rfl) (hpl : (backTo pos (starEach [e2] X.env)).any (·.1) = false := by rfl) :
    DI G X Wx (.Tuple elts kk tpos) (.Call (.Name "zip" p) [e, e2] [] pos) (mZip m) := by
  refine DI.imp (fun ρ => (ha.mono ρ).bind fun d => zippedD_mono d) (RZ.pi_zipA hg (Z ▸ hm) ha.pa hs hpl) fun N ρ σ H R r q => ?_
  refine ha.go r q (fun x z => z) fun ds vs H1 z s1 r1 _ => ?_
  obtain ⟨xs, ys, h, z⟩ := zippedD_inv z
  rcases h with rfl | rfl
  · obtain ⟨v, rest, rfl, ⟨a, ws, rfl, n, hq, rs⟩, rr⟩ := r1
    obtain ⟨w, rfl, b, us, rfl, n2, hq2, rs2⟩ := Reps.one_inv rr
    exact ⟨a, b, ws, us, rfl, .inl ⟨.of hq, .of hq2, z _ H1 s1 (serves_zipL n n2 hq hq2 rs rs2)⟩⟩
  · obtain ⟨v, rest, rfl, ⟨a, ws, rfl, hq, rs⟩, rr⟩ := r1
    obtain ⟨w, rfl, b, us, rfl, hq2, rs2⟩ := Reps.one_inv rr
    exact ⟨a, b, ws, us, rfl, .inr ⟨ZK ▸ hq.sq, ZK ▸ hq2.sq, z _ H1 s1 (ZK ▸ serves_zipT hq hq2 rs rs2)⟩⟩
/-! ### items of a dict in a slot, in a comprehension -/
def mItemsV (i : Nat) : Ro → W Ex (List D) := fun ρ => W.bind (mVar i ρ) fun d => W.got (asK d) fun kvs => W.ret (kvs.map pairD)
theorem mItemsV_mono (i : Nat) (ρ : Ro) : W.Mono (mItemsV i ρ) := (gotD_mono _).bind fun _ => got_mono fun _ => W.Mono.ret
theorem mItemsV_inv {i : Nat} {ρ : Ro} {Q : List D → Prop} {E : Ex → Prop} (h : mItemsV i ρ Q E) : ∃ kvs, ρ[i]? = some (some (.dic kvs)) ∧ Q (kvs.map pairD) := by
  obtain ⟨d, e, z⟩ := gotD_inv (show gotD ρ[i]? _ E from h)
  obtain ⟨kvs, hk, z⟩ := got_inv z
  rw [asK_inv hk] at e
  exact ⟨kvs, e, z⟩
theorem lcN_noE {p : D → Option (List (Nat × D))} {c : Ro → W Ex Bool} {e : Ro → W Ex D} {ρ : Ro} {E E' : Ex → Prop} : ∀ {ds : List D} {Q : List D → Prop}, (∀ ρ, W.Mono (c ρ)) → (∀ ρ, W.Mono (e ρ)) → lcN p c e ρ ds Q E → lcN p c e ρ ds Q E'
  | [], Q, _, _, h => h
  | d :: ds, Q, hc, he, h => by
    unfold lcN at h ⊢
    rcases ep : p d with _ | bs
    · rw [ep] at h; exact h.elim
    · simp only [ep] at h ⊢
      refine (hc _).run (fun b z => ?_) (fun _ z => z) (show c (setR ρ bs) _ (fun _ => False) from h)
      cases b with
      | false => exact lcN_noE hc he z
      | true => exact (he _).run (fun y z => lcN_noE (ds := ds) hc he z) (fun _ z => z) (show e (setR ρ bs) _ (fun _ => False) from z)
theorem ownT_unlock {N N' : Addr → Prop} {H : Hp} {a l : Addr} {ob : Obj} {ks : List (Key × V)} {d : D} (h : OwnT G N H l d) (ha : H a = some (HO.frz ob (HO.dK ks))) (hN : ∀ b, N b → H b ≠ none → N' b) (hne : l ≠ a) : OwnT G N' (upd H a (HO.dK ks)) l d := by
  have le : Le H (upd H a (HO.dK ks)) := fun b o e _ => by
    by_cases hb : b = a
    · subst hb
      rw [ha] at e
      cases e
      exact .inr (.inr ⟨ob, ks, rfl, upd_same⟩)
    · exact .inl (by rw [upd_ne hb]; exact e)
  cases d <;> first | exact h.elim | skip
  · obtain ⟨vs, h1, h2⟩ := h
    exact ⟨vs, by rw [upd_ne hne]; exact h1, Reps.mono hN le h2⟩
  · obtain ⟨ks', h1, h2⟩ := h
    exact ⟨ks', by rw [upd_ne hne]; exact h1, RepK.mono hN le h2⟩
theorem items_tI {i : Nat} {σ : Fb.St} {H : Hp} {R : It → Hp → Prop} (hf : ∀ a ks, σ[i]? = some (some (.ref a)) → Rd H a (.dK ks) → ∃ o, H a = some (.frz o (.dK ks))) (h : tI G Wx (mItemsV i) σ H R) : iItems (tVar i) σ H R := by
  obtain ⟨N, ρ, rr, q⟩ := h
  obtain ⟨kvs, e, z⟩ := mItemsV_inv q
  obtain ⟨v, ev, a, ks, rfl, na, ha, rk⟩ := rr.get i _ e
  obtain ⟨o, ho⟩ := hf a ks ev ha
  exact ⟨.ref a, ev, a, o, ks, rfl, ho, z _ H (Same.refl H) (serves_items (.inl na) ho (RepK.mono (fun b n _ => .inl n) (Le.refl H) rk))⟩
theorem lcK_noE {i : Nat} {p : D → Option (List (Nat × D))} {vs : List Nat} {c : Ro → W Ex Bool} {e : Ro → W Ex D} {ρ : Ro} {Q : Bool × D → Prop} {E E' : Ex → Prop} (hc : ∀ ρ, W.Mono (c ρ)) (he : ∀ ρ, W.Mono (e ρ)) (h : mLc (mItemsV i) vs p c e ρ Q E) : mLc (mItemsV i) vs p c e ρ Q E' := by
  obtain ⟨kvs, e1, z⟩ := mItemsV_inv (show mItemsV i ρ _ E from h)
  show mItemsV i ρ _ E'
  unfold mItemsV mVar
  rw [e1]
  obtain ⟨hl, z⟩ := ite_ret (show (if (kvs.map pairD).length ≤ sizeLine then _ else W.fail) Q E from z)
  show (if (kvs.map pairD).length ≤ sizeLine then _ else W.fail) Q E'
  rw [if_pos hl]
  exact lcN_noE hc he z
theorem lcK_lst {i : Nat} {p : D → Option (List (Nat × D))} {vs : List Nat} {c : Ro → W Ex Bool} {e : Ro → W Ex D} {ρ : Ro} {Q : Bool × D → Prop} {E : Ex → Prop} (hc : ∀ ρ, W.Mono (c ρ)) (he : ∀ ρ, W.Mono (e ρ)) (h : mLc (mItemsV i) vs p c e ρ Q E) : ∃ kvs, ρ[i]? = some (some (.dic kvs)) := by
  obtain ⟨kvs, e1, z⟩ := mItemsV_inv (show mItemsV i ρ _ E from h)
  exact ⟨kvs, e1⟩
theorem lockK {σ : Fb.St} {H : Hp} {Q : VK} {m : Ro → W Ex (Bool × D)} (hm : ∀ ρ, W.Mono (m ρ)) (hE : ∀ {ρ Q E E'}, m ρ Q E → m ρ Q E') {a : Addr} {ks : List (Key × V)} (ha : H a = some (.dK ks)) (od : Obj) (h : tR G Wx m σ H Q) :
    tR G Wx m σ (upd H a (.frz od (.dK ks))) fun v H' => H' a = some (.frz od (.dK ks)) ∧ Q v (upd H' a (.dK ks)) := by
  obtain ⟨N, ρ, rr, q⟩ := h
  have lk : Le H (upd H a (.frz od (.dK ks))) := fun b o e _ => by
    by_cases hb : b = a
    · subst hb
      rw [ha] at e
      cases e
      exact .inr (.inl ⟨ks, rfl, od, upd_same⟩)
    · exact .inl (by rw [upd_ne hb]; exact e)
  have nn : ∀ {b}, upd H a (.frz od (.dK ks)) b = none → H b = none := fun {b} e => by
    by_cases hb : b = a
    · subst hb; rw [upd_same] at e; cases e
    · rw [upd_ne hb] at e; exact e
  refine ⟨N, ρ, ⟨tabs_upd rr.tab (.inr ⟨_, ha, dK_no⟩), fun j d e => ?_⟩, hE ((hm ρ).run (E' := PoX G N Wx H σ) (fun r z v H' s' r' f' => ?_) (fun _ y => y) q)⟩
  · obtain ⟨v, e1, r1⟩ := rr.get j d e
    exact ⟨v, e1, r1.mono (fun _ n _ => n) lk⟩
  have ha' : H' a = some (.frz od (.dK ks)) := s'.at upd_same
  refine ⟨ha', z v (upd H' a (.dK ks)) ⟨fun b o e n => ?_, fun b e => ?_, fun t => tabs_upd (s'.tab (tabs_upd t (.inr ⟨_, ha, dK_no⟩))) (.inr ⟨_, ha', frz_no⟩)⟩ ?_ fun hb => ?_⟩
  · by_cases hb : b = a
    · subst hb
      rw [ha] at e
      cases e
      exact upd_same
    · rw [upd_ne hb]
      exact s'.at (by rw [upd_ne hb]; exact e) n
  · by_cases hb : b = a
    · subst hb; rw [upd_same] at e; cases e
    · rw [upd_ne hb] at e; exact nn (s'.free e)
  · have ul : Le H' (upd H' a (.dK ks)) := fun b o e _ => by
      by_cases hb : b = a
      · subst hb
        rw [ha'] at e
        cases e
        exact .inr (.inr ⟨od, ks, rfl, upd_same⟩)
      · exact .inl (by rw [upd_ne hb]; exact e)
    exact r'.mono (fun b n _ => n.elim .inl fun y => .inr (nn y)) ul
  · obtain ⟨l, ev, hl, ho⟩ := f' hb
    have hl' : H l = none := nn hl
    refine ⟨l, ev, hl', ownT_unlock ho ha' (fun b n _ => ⟨n.1.elim .inl fun y => .inr (nn y), n.2⟩) fun e => ?_⟩
    subst e
    rw [ha] at hl'
    cases hl'
theorem dr_lcK {elt : Expr} {ifs : List Expr} {scope : Scope} {own : List (Str × Nat)} {pos apos cpos : Pos} {x : Str} {i : Nat} {p0 : Pos} {elts : List Expr} {kk : Nat} {tpos : Pos} {g : TG} {p : D → Option (List (Nat × D))} {sl : List Nat} {c : Ro → W Ex Bool} {e : Ro → W Ex D} (hc : X.calm = true) (hN : X.N.Nodup)
    (hv : PE X (.Name x p0) (tVar i)) (hbase : attributeBase (.Name x p0) "items" X.env (eval (.Name x p0) X.env) = eval (.Name x p0) X.env := by rfl) (hline : (apos.endLine == cpos.line) = true := by rfl) (ok : BlkOk X.N X.env.scope scope own)
    (hg : ∀ (s : Shared) (H : Hp) (C : Addr) (cl : List (Str × Addr)) (fp : List Addr), DG G (X.blk s H scope (compEnvC scope cl C X.env) fp) (.Tuple elts kk tpos) g p sl) (hsl : ∀ i ∈ sl, i ∈ own.map (·.2)) (ht : ∀ (s : Shared) (H : Hp) (C : Addr) (cl : List (Str × Addr)) (fp : List Addr), DTs G (X.blk s H scope (compEnvC scope cl C X.env) fp) WxF ifs c)
    (he : ∀ (s : Shared) (H : Hp) (C : Addr) (cl : List (Str × Addr)) (fp : List Addr), DE G (X.blk s H scope (compEnvC scope cl C X.env) fp) WxF elt e) (hs : ∀ y, foldedSetIterable (.Call (.Attribute (.Name x p0) "items" apos) [] [] cpos) X.env y = pure y := by intro _; rfl) :
    DR G X Wx (.ListComp elt [⟨.Tuple elts kk tpos, .Call (.Attribute (.Name x p0) "items" apos) [] [] cpos, ifs, 0⟩] scope pos) (mLc (mItemsV i) (own.map (·.2)) p c e) := by
  have cm := (ht {} (fun _ => none) 0 [] []).mono
  have em := (he {} (fun _ => none) 0 [] []).mono
  have mm := mLc_mono (vs := own.map (·.2)) (p := p) (mItemsV_mono i) cm em
  have base := pe_lc (pos := pos) hc hN (pi_items hv hbase hline) ok (fun s H C cl fp => (hg s H C cl fp).pg) (fun s H C cl fp => (ht s H C cl fp).pt) (fun s H C cl fp => (he s H C cl fp).pe) hs
  refine ⟨⟨fun pins s σ H Q I h => ?_⟩, mm⟩
  -- what slot i holds
  obtain ⟨N, ρ, rr, q⟩ := id h
  obtain ⟨kvs, e1⟩ := lcK_lst cm em q
  obtain ⟨v, ev, a, ks, rfl, na, ha, rk⟩ := rr.get i _ e1
  have frozen : ∀ {H' : Hp} {Q' : VK}, (∃ o, H' a = some (.frz o (.dK ks))) → tR G Wx (mLc (mItemsV i) (own.map (·.2)) p c e) σ H' Q' → tLc (iItems (tVar i)) g (tT G WxF c) (tE G WxF e) (own.map (·.2)) σ H' Q' := fun {H' Q'} hf h' => by
    have z := lc_tLc (mItemsV_mono i) cm em (hg s H 0 [] []) (tg := .Tuple elts kk tpos) (own_lt I.len ok hsl) h'
    refine items_tI (G := G) (Wx := Wx) (fun b ks' eb rd => ?_) z
    rw [ev] at eb
    cases eb
    obtain ⟨o, ho⟩ := hf
    rcases rd with rd | ⟨o', rd⟩
    · rw [ho] at rd; cases rd
    · exact ⟨o', rd⟩
  rcases ha with ha | ⟨o, ha⟩
  · refine (pe_lock base).run pins s σ H Q I ⟨a, .dK ks, ha, trivial, fun od => frozen ⟨od, upd_same⟩ (lockK mm (fun y => lcK_noE cm em y) ha od h)⟩
  · exact base.run pins s σ H Q I (frozen ⟨o, ha⟩ h)
end
end Fb
end

section
set_option Elab.async false
set_option linter.all false
set_option maxRecDepth 100000
set_option maxHeartbeats 4000000
/-! Loops and dict blocks over the items of a dict in a slot. -/
namespace Fb
open PySem PySem.Spec PyProof.Rows L2
section
variable {G : Wd} {X : Cx} {Wx : WX}
/-- the heap with a dict locked, and what is held alone -/
theorem srel_lock {H0 H : Hp} {N0 : Addr → Prop} {S : Nat → Option Addr} {σ : Fb.St} {ρ : En} {a : Addr} {ks : List (Key × V)} (od : Obj) (h0 : Same1 G H0 H) (hl : ρ.length = σ.length) (o : OwnOk G H0 N0 S σ H ρ) (ha : H a = some (.dK ks)) (na : ∀ j, S j ≠ some a) :
    SRel G (upd (hpart S H) a (.frz od (.dK ks))) (Fr N0 H0) σ (upd H a (.frz od (.dK ks))) ρ := by
  have ne : ∀ {j : Nat} {b : Addr}, S j = some b → b ≠ a := fun {j b} e z => na j (z ▸ e)
  have le : Le H (upd H a (.frz od (.dK ks))) := fun b u e _ => by
    by_cases hb : b = a
    · subst hb
      rw [ha] at e
      cases e
      exact .inr (.inl ⟨ks, rfl, od, upd_same⟩)
    · exact .inl (by rw [upd_ne hb]; exact e)
  have sub : ∀ b, Out N0 H0 S b → Out (Fr N0 H0) (upd (hpart S H) a (.frz od (.dK ks))) S b := fun b h => ⟨.inl h.1, h.2⟩
  have s1 : Same1 G (upd (hpart S H) a (.frz od (.dK ks))) (upd H a (.frz od (.dK ks))) := ⟨.of fun b u e => by
    by_cases hb : b = a
    · subst hb; rw [upd_same] at e ⊢; exact e
    · rw [upd_ne hb] at e ⊢; exact (hpart_some e).1, tabs_upd h0.tb (.inr ⟨_, ha, dK_no⟩)⟩
  refine ⟨s1, hl, S, fun i b e => ⟨by rw [upd_ne (ne e)]; exact hpart_out e, by rw [upd_ne (ne e)]; exact (o.new i b e).2⟩, fun i b e => by rw [upd_ne (ne e)]; exact o.kind i b e, o.inj, fun i d e => ?_, fun i d e => ?_⟩
  · obtain ⟨v, e1, r⟩ := o.shr i d e
    exact ⟨v, e1, r.mono (fun b n _ => sub b n) le⟩
  · obtain ⟨b, e1, e2, r⟩ := o.own i d e
    refine ⟨b, e1, e2, ?_⟩
    cases d <;> first | exact r.elim | skip
    · obtain ⟨vs, h1, h2⟩ := r
      exact ⟨vs, by rw [upd_ne (ne e2)]; exact h1, Reps.mono (fun b n _ => sub b n) le h2⟩
    · obtain ⟨vs, h1, h2⟩ := r
      exact ⟨vs, by rw [upd_ne (ne e2)]; exact h1, RepK.mono (fun b n _ => sub b n) le h2⟩
theorem srel_unlock {H0 HP H' : Hp} {N0 : Addr → Prop} {σ : Fb.St} {ρ : En} {a : Addr} {ks : List (Key × V)} {od : Obj} (h0 : Same G H0 HP) (ha : HP a = some (.dK ks)) (x : SRel G (upd HP a (.frz od (.dK ks))) (Fr N0 H0) σ H' ρ) : H' a = some (.frz od (.dK ks)) ∧ SRel G H0 N0 σ (upd H' a (.dK ks)) ρ := by
  have ha' : H' a = some (.frz od (.dK ks)) := x.same.at upd_same
  obtain ⟨S, o⟩ := x.own
  have ne : ∀ {j : Nat} {b : Addr}, S j = some b → b ≠ a := fun {j b} e z => by
    have := (o.new j b e).1
    rw [z, upd_same] at this
    cases this
  have nb : ∀ {b : Addr}, upd HP a (.frz od (.dK ks)) b = none → H0 b = none := fun e => h0.free (upd_none_ne e).2
  have le : Le H' (upd H' a (.dK ks)) := fun b u e _ => by
    by_cases hb : b = a
    · subst hb
      rw [ha'] at e
      cases e
      exact .inr (.inr ⟨od, ks, rfl, upd_same⟩)
    · exact .inl (by rw [upd_ne hb]; exact e)
  have sub : ∀ b, Out (Fr N0 H0) (upd HP a (.frz od (.dK ks))) S b → Out N0 H0 S b := fun b h => ⟨h.1.elim id fun z => .inr (nb z), h.2⟩
  have s1 : Same1 G H0 (upd H' a (.dK ks)) := ⟨⟨fun b u e n => by
    have e1 := h0.at e n
    by_cases hb : b = a
    · subst hb; rw [ha] at e1; cases e1; exact upd_same
    · rw [upd_ne hb]; exact x.same.at (by rw [upd_ne hb]; exact e1) n, fun b e => nb (x.same.free (upd_none_ne e).2), fun _ => tabs_upd x.same.tb (.inr ⟨_, ha', frz_no⟩)⟩, tabs_upd x.same.tb (.inr ⟨_, ha', frz_no⟩)⟩
  refine ⟨ha', s1, x.len, S, fun i b e => ⟨nb (o.new i b e).1, by rw [upd_ne (ne e)]; exact (o.new i b e).2⟩, fun i b e => by rw [upd_ne (ne e)]; exact o.kind i b e, o.inj, fun i d e => ?_, fun i d e => ?_⟩
  · obtain ⟨v, e1, r⟩ := o.shr i d e
    exact ⟨v, e1, r.mono (fun b n _ => sub b n) le⟩
  · obtain ⟨b, e1, e2, r⟩ := o.own i d e
    refine ⟨b, e1, e2, ?_⟩
    cases d <;> first | exact r.elim | skip
    · obtain ⟨vs, h1, h2⟩ := r
      exact ⟨vs, by rw [upd_ne (ne e2)]; exact h1, Reps.mono (fun b n _ => sub b n) le h2⟩
    · obtain ⟨vs, h1, h2⟩ := r
      exact ⟨vs, by rw [upd_ne (ne e2)]; exact h1, RepK.mono (fun b n _ => sub b n) le h2⟩
/-- the turns of a loop, told by a walk that serves from HP on -/
theorem loop_turns {tgt : Expr} {g : TG} {p : D → Option (List (Nat × D))} {sl : List Nat} {body : List Stmt} {b : En → WS} {J : It} {ds : List D} {HP : Hp} {NP NV : Addr → Prop} {D' : Ends} {σ : Fb.St} {H1 : Hp} {ρ : En} (hg : DG G X tgt g p sl) (hb : DSs G X Wx body b)
    (hN : ∀ b, NV b → NP b ∧ HP b ≠ none) (sv : ∀ i H', Same G HP H' → (∀ d, ds[i]? = some d → J.go i H' ∧ ∀ x H'', J.yld i H' x H'' → Same G H' H'' ∧ Rep G NV H'' d x) ∧ (ds[i]? = none → J.stop i H')) (x1 : SRel G HP NP σ H1 ρ) (z : forN p b ds ρ (PoS G HP NP D') (PoXS G HP NP Wx)) :
    ∃ W : Nat → Nat → Fb.St → Hp → Prop, (∃ m, W 0 m σ H1) ∧ ∀ i m σ H, W i m σ H →
      (J.stop i H ∧ D'.nx σ H) ∨ (J.go i H ∧ ∃ N : Fb.St → Hp → Prop, (∀ σ' H', N σ' H' → ∃ m', m' < m ∧ W (i + 1) m' σ' H') ∧ ∀ x H', J.yld i H x H' → g x σ H' fun σ2 H2 => tS G Wx b { D' with nx := N, ct := N, bk := D'.nx } σ2 H2) := by
  refine ⟨fun i k σ H => k = ds.length - i ∧ i ≤ ds.length ∧ ∃ ρ, SRel G HP NP σ H ρ ∧ forN p b (ds.drop i) ρ (PoS G HP NP D') (PoXS G HP NP Wx), ⟨_, rfl, Nat.zero_le _, _, x1, z⟩, ?_⟩
  rintro i k σ2 H2 ⟨rfl, hi, ρ2, x2, z2⟩
  obtain ⟨sv1, sv2⟩ := sv i H2 x2.same
  by_cases hlt : i < ds.length
  · obtain ⟨d, hd⟩ : ∃ d, ds[i]? = some d := ⟨ds[i], by simp [hlt]⟩
    have hdrop : ds.drop i = d :: ds.drop (i + 1) := by
      rw [List.drop_eq_getElem_cons hlt]
      rw [List.getElem?_eq_getElem hlt] at hd
      cases hd
      rfl
    rw [hdrop] at z2
    obtain ⟨go, yl⟩ := sv1 d hd
    refine .inr ⟨go, fun σ' H' => ∃ ρ, SRel G HP NP σ' H' ρ ∧ forN p b (ds.drop (i + 1)) ρ (PoS G HP NP D') (PoXS G HP NP Wx), fun σ' H' w => ⟨ds.length - (i + 1), by omega, rfl, hlt, w⟩, fun x H' y => ?_⟩
    obtain ⟨s3, r3⟩ := yl x H' y
    unfold forN at z2
    rcases ep : p d with _ | bs
    · rw [ep] at z2; exact z2.elim
    · rw [ep] at z2
      refine hg.st _ H' d x bs σ2 _ r3 ep fun ws rb => ?_
      have x3 := SRel.setE (N := NV) hN (x2.step s3) rb
      refine ⟨HP, NP, setE ρ2 bs, x3, (hb.mono _).run (fun q y => ?_) (fun _ y => y) z2⟩
      obtain ⟨f, ρ'⟩ := q
      cases f with
      | nx => exact fun σ' H' r' => ⟨ρ', r', y⟩
      | ct => exact fun σ' H' r' => ⟨ρ', r', y⟩
      | bk => exact fun σ' H' r' => y σ' H' r'
      | rt r => exact y
  · have e : i = ds.length := by omega
    subst e
    have hn : ds[ds.length]? = none := by simp
    rw [List.drop_length] at z2
    exact .inl ⟨sv2 hn, z2 σ2 H2 x2⟩
/-- what is not held alone, without what is -/
theorem lex_part {H0 H : Hp} {N0 : Addr → Prop} {S : Nat → Option Addr} {σ : Fb.St} {ρ : En} (o : OwnOk G H0 N0 S σ H ρ) : LeX (Out N0 H0 S) H (hpart S H) := fun b u e c => by
  by_cases k : ∃ j, S j = some b
  · obtain ⟨j, k⟩ := k
    obtain ⟨u', e', k'⟩ := o.kind j b k
    rw [e] at e'
    cases e'
    rcases c with c | c
    · exact absurd k (c.2 j)
    · exact absurd k' c
  · rw [hpart_in fun j k' => k ⟨j, k'⟩]; exact e
/-- for .. in x.items(): nothing may be raised within -/
def mForI (fz : List Nat) (i : Nat) (p : D → Option (List (Nat × D))) (b : En → WS) : En → WS := fun ρ Q _ => mItemsV i (see fz ρ) (fun ds => forN p b ds (frz fz ρ) Q fun _ => False) fun _ => False
theorem ds_forI {x : Str} {i : Nat} {p0 apos cpos tpos : Pos} {elts : List Expr} {kk : Nat} {body : List Stmt} {b : En → WS} {g : TG} {p : D → Option (List (Nat × D))} {sl : List Nat} {pos : Pos} (fz : List Nat) (hp : PassesOwn (model X.prog X.w) X.A X.env X.xe) (hc : X.calm = true) (hv : PE X (.Name x p0) (tVar i))
    (hg : DG G X (.Tuple elts kk tpos) g p sl) (hb : DSs G X Wx body b) (hbase : attributeBase (.Name x p0) "items" X.env (eval (.Name x p0) X.env) = eval (.Name x p0) X.env := by rfl) (hline : (apos.endLine == cpos.line) = true := by rfl)
    (hs : ∀ y, foldedSetIterable (.Call (.Attribute (.Name x p0) "items" apos) [] [] cpos) X.env y = pure y := by intro _; rfl) : DS G X Wx (.For (.Tuple elts kk tpos) (.Call (.Attribute (.Name x p0) "items" apos) [] [] cpos) body [] pos) (mForI fz i p b) := by
  refine ⟨⟨fun pins s σ H D' I ⟨H0, N0, ρ, r, q⟩ => ?_⟩, fun ρ => ⟨fun h _ q => (mItemsV_mono i _).run (fun ds z => (forN_mono hb.mono ds _).run h (fun _ y => y) z) (fun _ y => y) q⟩⟩
  have base := ps_for (pos := pos) hp hc (pi_items hv hbase hline) hg.pg hb.ps hs
  obtain ⟨S, o⟩ := r.own
  obtain ⟨kvs, e1, z⟩ := mItemsV_inv (show mItemsV i (see fz ρ) _ _ from q)
  have o1 : OwnOk G H0 N0 (cut fz S) σ H (frz fz ρ) := o.frz fz
  obtain ⟨v, ev, a, ks, rfl, na, ha, rk⟩ := (o.sees r.same.tb fz).get i _ e1
  have z : forN p b (kvs.map pairD) (frz fz ρ) (PoS G H0 N0 D') (fun _ => False) := z
  have hl : (frz fz ρ).length = σ.length := frz_len.trans r.len
  have hp0 := hpart_h0 r.same o1
  have nS : ∀ j, cut fz S j ≠ some a := fun j z => na.2 j z
  have hN : ∀ {HP : Hp}, ∀ b, (fun b => Out N0 H0 (cut fz S) b ∧ HP b ≠ none) b → Fr N0 H0 b ∧ HP b ≠ none := fun b h => ⟨h.1.1, h.2⟩
  rcases ha with ha | ⟨od, ha⟩
  · -- the dict stands open: lock it
    refine (ps_lock base).run pins s σ H D' I ⟨a, .dK ks, ha, trivial, fun od => ?_⟩
    have hPa : hpart (cut fz S) H a = some (.dK ks) := (hpart_in nS).trans ha
    have x1 := srel_lock od r.same hl o1 ha nS
    have nb : ∀ {b : Addr}, upd (hpart (cut fz S) H) a (.frz od (.dK ks)) b = none → H0 b = none := fun e => hp0.free (upd_none_ne e).2
    have z' := (forN_mono hb.mono (kvs.map pairD) (frz fz ρ)).run (Q' := PoS G (upd (hpart (cut fz S) H) a (.frz od (.dK ks))) (Fr N0 H0) ⟨fun σ' H' => H' a = some (.frz od (.dK ks)) ∧ D'.nx σ' (upd H' a (.dK ks)), fun v H' => H' a = some (.frz od (.dK ks)) ∧ D'.rt v (upd H' a (.dK ks)), fun σ' H' => H' a = some (.frz od (.dK ks)) ∧ D'.bk σ' (upd H' a (.dK ks)), fun σ' H' => H' a = some (.frz od (.dK ks)) ∧ D'.ct σ' (upd H' a (.dK ks))⟩) (E' := PoXS G (upd (hpart (cut fz S) H) a (.frz od (.dK ks))) (Fr N0 H0) Wx) (fun q y => by
      obtain ⟨f, ρ'⟩ := q
      cases f with
      | nx => exact fun σ' H' x' => let ⟨k1, k2⟩ := srel_unlock hp0 hPa x'; ⟨k1, y σ' _ k2⟩
      | bk => exact fun σ' H' x' => let ⟨k1, k2⟩ := srel_unlock hp0 hPa x'; ⟨k1, y σ' _ k2⟩
      | ct => exact fun σ' H' x' => let ⟨k1, k2⟩ := srel_unlock hp0 hPa x'; ⟨k1, y σ' _ k2⟩
      | rt rr =>
        intro v H' s' r' f'
        have ha' : H' a = some (.frz od (.dK ks)) := s'.at upd_same
        have le : Le H' (upd H' a (.dK ks)) := fun b u e _ => by
          by_cases hb : b = a
          · subst hb
            rw [ha'] at e
            cases e
            exact .inr (.inr ⟨od, ks, rfl, upd_same⟩)
          · exact .inl (by rw [upd_ne hb]; exact e)
        have s1 : Same G H0 (upd H' a (.dK ks)) := ⟨fun b u e n => by
          have e1 := hp0.at e n
          by_cases hb : b = a
          · subst hb; rw [hPa] at e1; cases e1; exact upd_same
          · rw [upd_ne hb]; exact s'.at (by rw [upd_ne hb]; exact e1) n, fun b e => nb (s'.free (upd_none_ne e).2), fun t => tabs_upd (s'.tab (tabs_upd (hp0.tab t) (.inr ⟨_, hPa, dK_no⟩))) (.inr ⟨_, ha', frz_no⟩)⟩
        have nn : ∀ {b}, Fr (Fr N0 H0) (upd (hpart (cut fz S) H) a (.frz od (.dK ks))) b → Fr N0 H0 b := fun h => h.elim id fun z => .inr (nb z)
        refine ⟨ha', y v _ s1 (r'.mono (fun b n _ => nn n) le) fun hb => ?_⟩
        obtain ⟨l, ev', hl', ho'⟩ := f' hb
        exact ⟨l, ev', nb hl', ownT_unlock ho' ha' (fun b n _ => ⟨nn n.1, n.2⟩) (upd_none_ne hl').1⟩) (fun _ y => y.elim) z
    have rk' : RepK G (Out N0 H0 (cut fz S)) (upd (hpart (cut fz S) H) a (.frz od (.dK ks))) kvs ks := by
      have k1 := RepK.monoX (N' := Out N0 H0 (cut fz S)) (fun _ n _ => n) (lex_part o1) rk
      refine RepK.mono (fun _ n _ => n) (fun b u e _ => ?_) k1
      by_cases hb : b = a
      · subst hb; rw [hPa] at e; cases e; exact .inr (.inl ⟨ks, rfl, od, upd_same⟩)
      · exact .inl (by rw [upd_ne hb]; exact e)
    have sv := serves_items (G := G) na (upd_same (H := hpart (cut fz S) H)) rk' _ Part.refl
    exact ⟨.ref a, ev, a, od, ks, rfl, upd_same, loop_turns hg hb hN sv x1 z'⟩
  · refine base.run pins s σ H D' I ?_
    have hPa : hpart (cut fz S) H a = some (.frz od (.dK ks)) := (hpart_in nS).trans ha
    have x1 := SRel.still r.same hl o1
    have z' := (forN_mono hb.mono (kvs.map pairD) (frz fz ρ)).run (Q' := PoS G (hpart (cut fz S) H) (Fr N0 H0) D') (E' := PoXS G (hpart (cut fz S) H) (Fr N0 H0) Wx) (fun q y => PoS.back (p := q) hp0 y) (fun _ y => y.elim) z
    have sv := serves_items (G := G) na hPa (RepK.monoX (N' := Out N0 H0 (cut fz S)) (fun _ n _ => n) (lex_part o1) rk) _ Part.refl
    exact ⟨.ref a, ev, a, od, ks, rfl, ha, loop_turns hg hb hN sv x1 z'⟩
/-! ### dict blocks over items -/
theorem dcN_noE {p : D → Option (List (Nat × D))} {c : Ro → W Ex Bool} {e f : Ro → W Ex D} {ρ : Ro} (hc : ∀ ρ, W.Mono (c ρ)) (he : ∀ ρ, W.Mono (e ρ)) (hf : ∀ ρ, W.Mono (f ρ)) {E E' : Ex → Prop} : ∀ {ds : List D} {kvs : List (Key × D)} {Q : List (Key × D) → Prop}, dcN p c e f ρ kvs ds Q E → dcN p c e f ρ kvs ds Q E'
  | [], _, _, h => h
  | d :: ds, kvs, Q, h => by
    unfold dcN at h ⊢
    rcases hp : p d with _ | bs
    · rw [hp] at h; exact h.elim
    · rw [hp] at h
      refine (hc _).run (fun b z => ?_) (fun _ z => z) (show c (setR ρ bs) _ (fun _ => False) from h)
      cases b with
      | false => exact dcN_noE hc he hf z
      | true =>
        refine (he _).run (fun y z => ?_) (fun _ z => z) (show e (setR ρ bs) _ (fun _ => False) from z)
        refine (hf _).run (fun x z => ?_) (fun _ z => z) (show f (setR ρ bs) _ (fun _ => False) from z)
        revert z
        show (match keyOf y with | some k => dcN p c e f ρ (putD kvs k x) ds | none => W.fail) Q E → (match keyOf y with | some k => dcN p c e f ρ (putD kvs k x) ds | none => W.fail) Q E'
        rcases keyOf y with _ | k
        · exact id
        · exact fun z => dcN_noE hc he hf z
theorem dcK_noE {i : Nat} {p : D → Option (List (Nat × D))} {vs : List Nat} {c : Ro → W Ex Bool} {e f : Ro → W Ex D} {ρ : Ro} {Q : Bool × D → Prop} {E E' : Ex → Prop} (hc : ∀ ρ, W.Mono (c ρ)) (he : ∀ ρ, W.Mono (e ρ)) (hf : ∀ ρ, W.Mono (f ρ)) (h : mDc (mItemsV i) vs p c e f ρ Q E) : mDc (mItemsV i) vs p c e f ρ Q E' := by
  obtain ⟨kvs, e1, z⟩ := mItemsV_inv (show mItemsV i ρ _ E from h)
  show mItemsV i ρ _ E'
  unfold mItemsV mVar
  rw [e1]
  obtain ⟨hl, z⟩ := ite_ret (show (if (kvs.map pairD).length ≤ sizeLine then _ else W.fail) Q E from z)
  show (if (kvs.map pairD).length ≤ sizeLine then _ else W.fail) Q E'
  rw [if_pos hl]
  exact dcN_noE hc he hf z
theorem dr_dcK {kx fx : Expr} {ifs : List Expr} {scope : Scope} {own : List (Str × Nat)} {pos apos cpos : Pos} {x : Str} {i : Nat} {p0 : Pos} {elts : List Expr} {kk : Nat} {tpos : Pos} {g : TG} {p : D → Option (List (Nat × D))} {sl : List Nat} {c : Ro → W Ex Bool} {e f : Ro → W Ex D} (hc : X.calm = true) (hN : X.N.Nodup)
    (hv : PE X (.Name x p0) (tVar i)) (ok : BlkOk X.N X.env.scope scope own)
    (hg : ∀ (s : Shared) (H : Hp) (C : Addr) (cl : List (Str × Addr)) (fp : List Addr), DG G (X.blk s H scope (compEnvC scope cl C X.env) fp) (.Tuple elts kk tpos) g p sl) (hsl : ∀ i ∈ sl, i ∈ own.map (·.2)) (ht : ∀ (s : Shared) (H : Hp) (C : Addr) (cl : List (Str × Addr)) (fp : List Addr), DTs G (X.blk s H scope (compEnvC scope cl C X.env) fp) WxF ifs c)
    (he : ∀ (s : Shared) (H : Hp) (C : Addr) (cl : List (Str × Addr)) (fp : List Addr), DE G (X.blk s H scope (compEnvC scope cl C X.env) fp) WxF kx e) (hf : ∀ (s : Shared) (H : Hp) (C : Addr) (cl : List (Str × Addr)) (fp : List Addr), DE G (X.blk s H scope (compEnvC scope cl C X.env) fp) WxF fx f)
    (hbase : attributeBase (.Name x p0) "items" X.env (eval (.Name x p0) X.env) = eval (.Name x p0) X.env := by rfl) (hline : (apos.endLine == cpos.line) = true := by rfl) (hs : ∀ y, foldedSetIterable (.Call (.Attribute (.Name x p0) "items" apos) [] [] cpos) X.env y = pure y := by intro _; rfl) :
    DR G X Wx (.DictComp kx fx [⟨.Tuple elts kk tpos, .Call (.Attribute (.Name x p0) "items" apos) [] [] cpos, ifs, 0⟩] scope pos) (mDc (mItemsV i) (own.map (·.2)) p c e f) := by
  have cm := (ht {} (fun _ => none) 0 [] []).mono
  have em := (he {} (fun _ => none) 0 [] []).mono
  have fm := (hf {} (fun _ => none) 0 [] []).mono
  have mm := mDc_mono (vs := own.map (·.2)) (p := p) (mItemsV_mono i) cm em fm
  have base := pe_dc (pos := pos) hc hN (pi_items hv hbase hline) ok (fun s H C cl fp => (hg s H C cl fp).pg) (fun s H C cl fp => (ht s H C cl fp).pt) (fun s H C cl fp => (he s H C cl fp).pe) (fun s H C cl fp => (hf s H C cl fp).pe) hs
  refine ⟨⟨fun pins s σ H Q I h => ?_⟩, mm⟩
  obtain ⟨N, ρ, rr, q⟩ := id h
  obtain ⟨kvs, e1, _⟩ := mItemsV_inv (show mItemsV i ρ _ _ from q)
  obtain ⟨v, ev, a, ks, rfl, na, ha, rk⟩ := rr.get i _ e1
  have frozen : ∀ {H' : Hp} {Q' : VK}, (∃ o, H' a = some (.frz o (.dK ks))) → tR G Wx (mDc (mItemsV i) (own.map (·.2)) p c e f) σ H' Q' → tDc (iItems (tVar i)) g (tT G WxF c) (tE G WxF e) (tE G WxF f) (own.map (·.2)) σ H' Q' := fun {H' Q'} hf' h' => by
    have z := dc_tDc (mItemsV_mono i) cm em fm (hg s H 0 [] []) (tg := .Tuple elts kk tpos) (own_lt I.len ok hsl) h'
    refine items_tI (G := G) (Wx := Wx) (fun b ks' eb rd => ?_) z
    rw [ev] at eb
    cases eb
    obtain ⟨o, ho⟩ := hf'
    rcases rd with rd | ⟨o', rd⟩
    · rw [ho] at rd; cases rd
    · exact ⟨o', rd⟩
  rcases ha with ha | ⟨o, ha⟩
  · exact (pe_lock base).run pins s σ H Q I ⟨a, .dK ks, ha, trivial, fun od => frozen ⟨od, upd_same⟩ (lockK mm (fun y => dcK_noE cm em fm y) ha od h)⟩
  · exact base.run pins s σ H Q I (frozen ⟨o, ha⟩ h)
end
end Fb
end

section
set_option Elab.async false
set_option linter.all false
set_option maxRecDepth 100000
set_option maxHeartbeats 4000000
/-! Lambdas handed to a def, called there. -/
namespace Fb
open PySem PySem.Spec PyProof.Rows L2
/-- the function that a lambda makes -/
abbrev lamNF (q : Str) (params : Arguments) (scope : Scope) (cl : List (Str × Addr)) (c : Addr) : NdefX.NF := ⟨"<lambda>", q, params, [], scope, cl, c⟩
/-- a def's code object at c; in its table stand code objects of the name q -/
structure LamAt (G : Wd) (base : Heap) (c : Addr) (q : Str) : Prop where
  ex : ∃ P, LamX.TabB base G.mg c P ∧ (P, q) ∈ G.tabs ∧ ∀ p ∈ G.tabs, p.1 = P → p.2 = q
section
variable {G : Wd} {X : Cx} {pins : List (Addr × Obj)} {σ : Fb.St} {H : Hp} {s : Shared}
theorem stay_upd {H : Hp} {b a : Addr} {o u : HO} (e : H b = some o) (n : H a = none) : upd H a u b = some o := (upd_ne (ne_of_none e n)).trans e
/-- the tables with one more code object in the one at P -/
theorem tabs_grow {c' P : Addr} {pos : Pos} {q : Str} {ps : Array Value} (tb : TabsG G H) (hm : (P, q) ∈ G.tabs) (hu : ∀ p ∈ G.tabs, p.1 = P → p.2 = q) (hP : H P = some (.tbl ps)) (n : H c' = none) :
    TabsG G (upd (upd H P (.tbl (ps ++ #[rawInt pos.line, rawInt pos.col, .ref c']))) c' (LamX.CodeO c' q)) := by
  have nP : P ≠ c' := ne_of_none hP n
  have old : ∀ {c : Addr} {r : Str}, H c = some (LamX.CodeO c r) → upd (upd H P (.tbl (ps ++ #[rawInt pos.line, rawInt pos.col, .ref c']))) c' (LamX.CodeO c' q) c = some (LamX.CodeO c r) := fun {c r} e => by
    have k1 : c ≠ P := fun z => LamX.codeO_ne ps (Option.some.inj (e.symm.trans (z ▸ hP)))
    exact (upd_ne (ne_of_none e n)).trans ((upd_ne k1).trans e)
  intro p hp
  obtain ⟨ps', h1, h2, h3⟩ := tb p hp
  by_cases hb : p.1 = P
  · obtain rfl : ps' = ps := by
      have := h1.symm.trans (hb ▸ hP)
      cases this
      rfl
    refine ⟨_, by rw [hb]; exact (upd_ne nP).trans upd_same, ?_, fun p' cv hcv => ?_⟩
    · have e : (ps' ++ #[rawInt pos.line, rawInt pos.col, .ref c']).toList = ps'.toList ++ [rawInt pos.line, rawInt pos.col, .ref c'] := Array.toList_append
      exact e ▸ PySem.TriplesOk_snoc _ _ _ _ h2
    · rw [Array.toList_append] at hcv
      rw [hu p hp hb]
      rcases LamX.among_app _ h2 hcv with z | z
      · obtain ⟨c0, e1, e2⟩ := h3 p' cv z
        rw [hu p hp hb] at e2
        exact ⟨c0, e1, old e2⟩
      · exact ⟨c', z, upd_same⟩
  · refine ⟨ps', (upd_ne (ne_of_none h1 n)).trans ((upd_ne hb).trans h1), h2, fun p' cv hcv => ?_⟩
    obtain ⟨c0, e1, e2⟩ := h3 p' cv hcv
    exact ⟨c0, e1, old e2⟩
/-- a lambda is made: its object, its code object -/
theorem lam_new {c : Addr} {params : Arguments} {body : Expr} {scope : Scope} {pos : Pos} {E : Value → Shared → Prop} {Q : Value → Shared → Prop} (I : Inv X pins σ H s) (hmg : X.mg = G.mg) (LA : LamAt G X.base c (X.env.qual ++ "<lambda>")) (hcode : X.env.code = .ref c) (tb : TabsG G H)
    (hdef : defaultsOf params X.env = ([], [])) (hfree : ∀ y ∈ scope.names, y.2 = .free → ∃ c, X.env.cells.lookup y.1 = some c)
    (h : ∀ (f c' : Addr) (pm ctv : Value) (H1 : Hp) (s1 : Shared), Inv X pins σ H1 s1 → Same G H H1 → H1 f = none → H1 c' = some (LamX.CodeO c' (X.env.qual ++ "<lambda>")) →
      s1.heap.get? f = some (PySem.W.kla_obj "<lambda>" (X.env.qual ++ "<lambda>") params body scope (cloFrom X.env.cells scope.names []) pm c' ctv) → Q (.ref f) s1) :
    wpAny (model X.prog X.w) X.A (eval (.Lambda params body scope pos) X.env) Q E s := by
  obtain ⟨P, TB, hm, hu⟩ := LA.ex
  rw [← hmg] at TB
  obtain ⟨ps, hP, tri, among⟩ := tb _ hm
  refine PySem.W.kla_eval hdef ?_
  have atP := (show ObjOk X.prog X.w H s.heap P (.tbl ps) from I.hok P _ hP)
  rcases fnd : codeAmong pos ps.toList with _ | cv
  · refine PySem.W.kla_makeFunction (c := c) (P := P) (mg := X.mg) (ps := ps) (closure_ok hfree) I.ok.glob (I.mod.glob.keeps I.bk) hcode (TB.code.keeps I.bk) atP tri fnd TB.gP (TB.bm.keeps I.bk) fun c' ctv h1 tk ext ge lt rec_ tab1 => ?_
    obtain ⟨c2, oc, us, t, e2, hoc, hd, hv⟩ := rec_
    cases e2
    have nC : H c' = none := I.hok.fresh ge
    have nF : H h1.objs.size = none := I.hok.fresh (Nat.le_trans ge (Nat.le_of_lt lt))
    obtain ⟨h2, eh2⟩ : ∃ h2, h2 = h1.push (PySem.W.kla_obj "<lambda>" (X.env.qual ++ "<lambda>") params body scope (cloFrom X.env.cells scope.names []) ((X.mg "__name__").getD .none) c' ctv) := ⟨_, rfl⟩
    have up : ∀ {b : Addr} {o : Obj}, h1.get? b = some o → h2.get? b = some o := fun e => eh2 ▸ Heap.get?_push_of_some _ e
    have I1 := LamX.inv_table (q := X.env.qual ++ "<lambda>") (t' := tk) (more := #[rawInt pos.line, rawInt pos.col, .ref c']) (h' := h2) I hP (fun b o hb e => up (ext b o hb e)) (up tab1) ge ⟨oc, us, t, up hoc, hd, hv⟩
    have sm : Same G H (upd (upd H P (.tbl (ps ++ #[rawInt pos.line, rawInt pos.col, .ref c']))) c' (LamX.CodeO c' (X.env.qual ++ "<lambda>"))) := ⟨fun b o e n => by
      have k1 : b ≠ P := fun z => n ps (Option.some.inj (e.symm.trans (z ▸ hP)))
      exact (upd_ne (ne_of_none e nC)).trans ((upd_ne k1).trans e), fun b e => (upd_none_ne (upd_none_ne e).2).2, fun t => tabs_grow t hm hu hP nC⟩
    rw [← eh2]
    refine h h1.objs.size c' _ ctv _ _ I1 sm ?_ upd_same (by rw [eh2]; exact Heap.get?_push_size _ rfl)
    have k1 : h1.objs.size ≠ c' := Nat.ne_of_gt lt
    have k2 : h1.objs.size ≠ P := Nat.ne_of_gt (Nat.lt_of_lt_of_le (Heap.lt_size atP) (Nat.le_trans ge (Nat.le_of_lt lt)))
    rw [upd_ne k1, upd_ne k2]
    exact nF
  · obtain ⟨c', rfl, hco⟩ := among pos cv fnd
    refine PySem.W.kla_makeFunctionHit (c := c) (P := P) (mg := X.mg) (ps := ps) (closure_ok hfree) I.ok.glob (I.mod.glob.keeps I.bk) hcode (TB.code.keeps I.bk) atP tri fnd (TB.bm.keeps I.bk) fun ctv h1 tk ext ge => ?_
    exact h h1.objs.size c' _ ctv H _ (I.kept fun b o e => Heap.get?_push_of_some _ (ext b o e)) (Same.refl H) (I.hok.fresh ge) hco (Heap.get?_push_size _ rfl)
end
/-! ### what a function is to whoever calls it -/
/-- the function k, made by the time of s0: called at any later time it does what L tells of the arguments and of what its captured names hold -/
structure Asks (P : Program) (w : World) (G : Wd) (base : Heap) (kk : Nat) (k : Clo) (L : List D → Rt) (n : Nat) (s0 : Shared) (H0 : Hp) : Prop where
  mono : ∀ ds, W.Mono (L ds)
  fn : ∀ (fs : List Addr) (s : Shared) (H : Hp), Un fs [] H0 H s0.heap s.heap → HOk P w H s.heap → PySem.W.FnAt k.f s.heap
  run : ∀ (fs : List Addr) (A : Around) (outer : List Env) (s : Shared) (H : Hp) (us : List Value) (vs : List V) (ds cs : List D) (N : Addr → Prop) (Q : VK) (E : XK), Room kk A → A.guards = some [] → Env0 P w G.K G.mg base A outer s H → TabsG G H → Un fs [] H0 H s0.heap s.heap →
    Vals vs us → Reps G N H ds vs → vs.length = n → H k.c = some (LamX.CodeO k.c k.q) → Reps G N H cs k.ws →
    L (ds ++ cs) (PoR G N H Q) (fun x => ∀ c dd H', Same G H H' → XRep G (Fr N H) H' x c dd → E c dd H') → codeAny (model P w) A (.call (.ref k.f) ⟨us, []⟩) (CR (CX P w) outer P w H s Q E) s
theorem Asks.up {P : Program} {w : World} {G : Wd} {base : Heap} {j kk : Nat} {k : Clo} {L : List D → Rt} {n : Nat} {s0 : Shared} {H0 : Hp} (a : Asks P w G base j k L n s0 H0) (h : j ≤ kk) : Asks P w G base kk k L n s0 H0 :=
  ⟨a.mono, a.fn, fun fs A outer s H us vs ds cs N Q E hr => a.run fs A outer s H us vs ds cs N Q E (hr.mono h)⟩
/-- a time that never is -/
def Hbad : Hp := fun _ => some (.tup (List.replicate (sizeLine + 1) .non))
theorem bad_no {P : Program} {w : World} {fs : List Addr} {H : Hp} {h h0 : Heap} (u : Un fs [] Hbad H h0 h) (ok : HOk P w H h) : False := by
  have e : H 0 = some (.tup (List.replicate (sizeLine + 1) .non)) := u.tups 0 _ rfl
  have z := (show ObjOk P w H h 0 (.tup (List.replicate (sizeLine + 1) .non)) from ok 0 _ e).1
  rw [List.length_replicate] at z
  omega
theorem asks_bad {P : Program} {w : World} {G : Wd} {base : Heap} {kk : Nat} {k : Clo} {L : List D → Rt} {n : Nat} {s0 : Shared} (m : ∀ ds, W.Mono (L ds)) : Asks P w G base kk k L n s0 Hbad :=
  ⟨m, fun fs s H u ok => (bad_no u ok).elim, fun fs A outer s H us vs ds cs N Q E _ _ e0 _ u => (bad_no u e0.hok).elim⟩
def askD (k0 : Clo) (m : List D → Rt) : D → Rt
  | .clo k cs => fun Q E => k = k0 ∧ m cs Q E
  | _ => W.fail
theorem askD_mono {k0 : Clo} {m : List D → Rt} (h : ∀ cs, W.Mono (m cs)) (d : D) : W.Mono (askD k0 m d) := by
  cases d <;> first | exact W.Mono.fail | exact ⟨fun f g ⟨e, q⟩ => ⟨e, (h _).run f g q⟩⟩
/-- x(e, ..), x the function -/
def mAsk (L : List D → Rt) (k0 : Clo) (i n : Nat) (m : Ro → W Ex (List D)) : Ro → W Ex (Bool × D) := fun ρ => W.bind (mVar i ρ) fun d => askD k0 (fun cs => W.bind (m ρ) fun ds => if ds.length = n then L (ds ++ cs) else W.fail) d
/-- x() -/
def mAsk0 (L : List D → Rt) (k0 : Clo) (i : Nat) : Ro → W Ex (Bool × D) := fun ρ => W.bind (mVar i ρ) fun d => askD k0 L d
section
variable {P : Program} {w : World} {G : Wd} {base : Heap} {k j : Nat} {X : Cx} {Wx : WX} {k0 : Clo} {L : List D → Rt} {n : Nat}
theorem askD_inv {m : List D → Rt} {d : D} {Q : Bool × D → Prop} {E : Ex → Prop} (h : askD k0 m d Q E) : ∃ cs, d = .clo k0 cs ∧ m cs Q E := by
  cases d <;> first | exact h.elim | exact ⟨_, by rw [h.1], h.2⟩
theorem run_ask {pins : List (Addr × Obj)} {σ : Fb.St} {H : Hp} {s : Shared} {Q : VK} {us : List Value} {vs : List V} {ds cs : List D} {N : Addr → Prop} (Z : Cz P w G base k X Wx) (As : Asks P w G base j k0 L n X.s_0 X.H_0) (hj : j ≤ k) (hex : X.ex = [])
    (I : Inv X pins σ H s) (tb : TabsG G H) (r : Vals vs us) (rd : Reps G N H ds vs) (hl : ds.length = n) (hc : H k0.c = some (LamX.CodeO k0.c k0.q)) (rc : Reps G N H cs k0.ws) (h : L (ds ++ cs) (PoR G N H Q) (PoX G N Wx H σ)) : wpAny (model X.prog X.w) X.A (call (.ref k0.f) us) (EP X pins σ Q) X.xe s := by
  obtain ⟨rfl, rfl, hK, hmg, rfl, hr, hg, tk⟩ := Z
  have e0 : Env0 X.prog X.w G.K G.mg X.base X.A X.stack s H := by rw [← hK, ← hmg]; exact I.env0
  have un : Un X.fs [] X.H_0 H X.s_0.heap s.heap := hex ▸ I.base
  refine wpAny_call (codeAny_mono (As.run X.fs X.A X.stack s H us vs ds cs N Q (fun c dd H' => Wx c dd σ H') (hr.mono hj) hg e0 tb un r rd (rd.length.trans hl) hc rc ((As.mono _).run (fun _ z => z) (fun x z => z) h)) fun r s' hq => ?_)
  cases r with
  | error e => exact tk e s' (XE.of_call (E := fun c dd H' => Wx c dd σ H') I (fun cls d H' h => h) hq)
  | ok fl =>
    cases fl with
    | ret u => exact I.after hq
    | next => exact False.elim hq
    | brk => exact False.elim hq
    | cont => exact False.elim hq
theorem dr_ask {i : Nat} {x : Str} {e : Expr} {es : List Expr} {p pos : Pos} {m : Ro → W Ex (List D)} (Z : Cz P w G base k X Wx) (As : Asks P w G base j k0 L n X.s_0 X.H_0) (hj : j ≤ k) (hex : X.ex = []) (hv : PE X (.Name x p) (tVar i)) (ha : DA G X Wx (e :: es) m)
    (he : starEach (e :: es) X.env = (false, eval e X.env) :: starEach es X.env := by rfl) (hpl : (backTo pos (starEach es X.env)).any (·.1) = false := by rfl) : DR G X Wx (.Call (.Name x p) (e :: es) [] pos) (mAsk L k0 i n m) := by
  refine ⟨⟨fun pins s σ H Q I ⟨N, ρ, rr, q⟩ => ?_⟩, fun ρ => (gotD_mono _).bind fun d => askD_mono (fun cs => (ha.mono ρ).bind fun ds => ite_mono (As.mono _) W.Mono.fail) d⟩
  obtain ⟨d, e1, q⟩ := gotD_inv q
  obtain ⟨cs, ed, qq⟩ := askD_inv q
  subst ed
  obtain ⟨v, e2, rfl, hc, rc⟩ := rr.get i _ e1
  have un : ∀ {H1 : Hp} {s1 : Shared} {σ1 : Fb.St} {pins1 : List (Addr × Obj)}, Inv X pins1 σ1 H1 s1 → PySem.W.FnAt k0.f s1.heap := fun I1 => As.fn X.fs _ _ (hex ▸ I1.base) (Z.P ▸ Z.w ▸ I1.hok)
  refine wpAny_Call_Name_kw (thn (hv.run pins s σ H (fun v H1 => v = .ref k0.f ∧ H1 = H) I ⟨.ref k0.f, e2, rfl, rfl⟩) fun u s1 ⟨v, H1, I1, r1, q1⟩ => ?_)
  obtain ⟨rfl, rfl⟩ := q1
  obtain rfl : u = Value.ref k0.f := r1
  have go := ha.pa.run pos pins s1 σ H1 (fun vs H2 => ∃ ds, Reps G (Fr N H1) H2 ds vs ∧ ds.length = n ∧ Same G H1 H2 ∧ L (ds ++ cs) (PoR G N H1 Q) (PoX G N Wx H1 σ)) I1 ⟨N, ρ, rr, (ha.mono ρ).run (fun ds z vs H2 s2 r2 => by
    by_cases hl : ds.length = n
    · exact ⟨ds, r2, hl, s2, by simpa only [if_pos hl] using z⟩
    · have z' : (W.fail : Rt) (PoR G N H1 Q) (PoX G N Wx H1 σ) := by simpa only [if_neg hl] using z
      exact z'.elim) (fun x z => z) qq⟩
  refine PySem.W.callWith_F (first := []) (un I1) (thn go fun us s2 ⟨vs, H2, I2, r, q2⟩ => ⟨un I2, ?_⟩) he hpl
  obtain ⟨ds, r2, hl, s2', z⟩ := q2
  exact run_ask Z As hj hex I2 (s2'.tab rr.tab) r r2 hl (s2'.at hc) ((rc.same s2').sub fun _ y => .inl y) ((As.mono _).run (fun _ y => y.step s2') (fun _ y => y.step2 s2') z)
theorem dr_ask0 {i : Nat} {x : Str} {p pos : Pos} (Z : Cz P w G base k X Wx) (As : Asks P w G base j k0 L 0 X.s_0 X.H_0) (hj : j ≤ k) (hex : X.ex = []) (hv : PE X (.Name x p) (tVar i)) : DR G X Wx (.Call (.Name x p) [] [] pos) (mAsk0 L k0 i) := by
  refine ⟨⟨fun pins s σ H Q I ⟨N, ρ, rr, q⟩ => ?_⟩, fun ρ => (gotD_mono _).bind fun d => askD_mono (fun cs => As.mono _) d⟩
  obtain ⟨d, e1, q⟩ := gotD_inv q
  obtain ⟨cs, ed, qq⟩ := askD_inv q
  subst ed
  obtain ⟨v, e2, rfl, hc, rc⟩ := rr.get i _ e1
  refine wpAny_Call_Name_kw (thn (hv.run pins s σ H (fun v H1 => v = .ref k0.f ∧ H1 = H) I ⟨.ref k0.f, e2, rfl, rfl⟩) fun u s1 ⟨v, H1, I1, r1, q1⟩ => ?_)
  obtain ⟨rfl, rfl⟩ := q1
  obtain rfl : u = Value.ref k0.f := r1
  refine PySem.W.callWith_F0 (first := []) (As.fn X.fs _ _ (hex ▸ I1.base) (Z.P ▸ Z.w ▸ I1.hok)) ?_
  exact run_ask (N := N) (ds := []) (vs := []) (us := []) Z As hj hex I1 rr.tab .nil rfl rfl hc rc qq
end
/-! ### defs that take a function, last -/
/-- cs: what the function's captured names hold -/
structure FnL (P : Program) (w : World) (G : Wd) (base : Heap) (k j : Nat) (f : Addr) (fd : FuncData) (ps : List Str) (n : Nat) (sem : (List D → Rt) → List D → List D → Rt) : Prop where
  run : ∀ (A : Around) (outer : List Env) (s : Shared) (H : Hp) (args : Args) (us : List Value) (vs : List V) (ds cs : List D) (N : Addr → Prop) (Q : VK) (E : XK) (k0 : Clo) (L : List D → Rt), Room k A → A.guards = some [] → Env0 P w G.K G.mg base A outer s H → TabsG G H → Asks P w G base j k0 L n s H →
    BindsTo s fd args (ps.zip us) → Vals (vs ++ [.ref k0.f]) us → Reps G N H ds vs → vs.length + 1 = ps.length → H k0.c = some (LamX.CodeO k0.c k0.q) → Reps G N H cs k0.ws →
    sem L cs ds (PoR G N H Q) (fun x => ∀ c dd H', Same G H H' → XRep G (Fr N H) H' x c dd → E c dd H') → codeAny (model P w) A (.call (.ref f) args) (CR (CX P w) outer P w H s Q E) s
  mono : ∀ L, (∀ ds, W.Mono (L ds)) → ∀ cs ds, W.Mono (sem L cs ds)
def runBodyL (n : Nat) (b : (List D → Rt) → Clo → En → WS) (L : List D → Rt) (cs : List D) : List D → Rt := fun ds Q E => ∀ k0, runBody n (b L k0) (ds ++ [.clo k0 cs]) Q E
theorem fnl_ok {P : Program} {w : World} {G : Wd} {base : Heap} {k j : Nat} {f : Addr} {x qual : Str} {st : Stmt} {fd : FuncData} {Ns ps : List Str} {n : Nat} {b : (List D → Rt) → Clo → En → WS} (F : Fun G.K x qual st f fd) (S : FnScope Ns ps (defScope st)) (hk : k ≤ 100)
    (body : ∀ (cdv : Value) (A : Around) (outer : List Env) (s : Shared) (H : Hp) (E : XK) (L : List D → Rt) (k0 : Clo), Cz P w G base k (cxD P w G base Ns qual (defScope st) f cdv A outer s H E) (wxD E) → Asks P w G base j k0 L n s H →
      DSs G (cxD P w G base Ns qual (defScope st) f cdv A outer s H E) (wxD E) (defBody st) (b L k0)) : FnL P w G base (k + 1) j f fd ps n (runBodyL Ns.length b) := by
  obtain ⟨oc, od, kV, doc, pm, an, cdv, ct, osl, rfl, lk, hcd⟩ := F.ex
  have mb : ∀ L, (∀ ds, W.Mono (L ds)) → ∀ k0 ρ, W.Mono (b L k0 ρ) := fun L hL k0 ρ => (body cdv A0 [] {} Hbad (fun _ _ _ => True) L k0 (cz_of (room0 hk) rfl) (asks_bad hL)).mono ρ
  refine ⟨fun A outer s H args us vs ds cs N Q E k0 L hr hg e0 tb As hb rv rd hl hc rc q => ?_, fun L hL cs ds => ⟨fun h1 h2 q k0 => (runBody_mono (mb L hL k0) _).run h1 h2 (q k0)⟩⟩
  have hl' : (vs ++ [V.ref k0.f]).length = ps.length := by rw [List.length_append]; exact hl
  refine LamX.run_ofS lk hcd S hr e0 hb rv hl' fun hr' => ?_
  have d := body cdv A outer s H E L k0 ⟨rfl, rfl, rfl, rfl, rfl, hr', hg, takes_of rfl rfl rfl rfl⟩ As
  have rd' : Reps G N H (ds ++ [.clo k0 cs]) (vs ++ [.ref k0.f]) := rd.app (.one ⟨rfl, hc, rc⟩)
  have q : b L k0 (initEn Ns.length (ds ++ [.clo k0 cs])) _ _ := q k0
  refine ⟨_, d.ps, H, N, initEn Ns.length (ds ++ [.clo k0 cs]), .start tb rd' ?_, (d.mono _).run (fun p y => ?_) (fun p y => ?_) q⟩
  · have := congrArg List.length S.pre
    rw [List.length_take] at this
    omega
  · obtain ⟨fl, ρ⟩ := p
    cases fl with
    | nx => exact fun σ' H' r' => y .non H' r'.same rfl fun z => nomatch z
    | rt r => exact fun v H' s' r' f' => y v H' s' r' f'
    | bk => exact y.elim
    | ct => exact y.elim
  · exact fun σ c dd H' r' x' => y c dd H' r'.same x'
/-- such a def of the module -/
structure FnKL (P : Program) (w : World) (G : Wd) (base : Heap) (k j : Nat) (x : Str) (ps : List Str) (n : Nat) (sem : (List D → Rt) → List D → List D → Rt) : Prop where
  ex : ∃ (f : Addr) (fd : FuncData), G.mg x = some (.ref f) ∧ PySem.W.keepIn G.K (.ref f) = true ∧ Binds G.K fd ps [] ∧ FnL P w G base k j f fd ps n sem
/-! ### a lambda's body -/
/-- the slots at its start: the parameters, the captured names -/
def lamRo (n : Nat) (ds : List D) : Ro := ds.map some ++ List.replicate (n - ds.length) none
def capsOf (ρ : Ro) : List Nat → Option (List D)
  | [] => some []
  | j :: js => match ρ[j]?, capsOf ρ js with
    | some (some d), some ds => some (d :: ds)
    | _, _ => none
/-- what it tells of the arguments and the captured -/
def lamSem (n : Nat) (mb : Ro → W Ex (Bool × D)) : List D → Rt := fun ds => mb (lamRo n ds)
theorem caps_reps {G : Wd} {N : Addr → Prop} {H : Hp} {σ : Fb.St} {ρ : Ro} (rr : ERel G N H σ ρ) : ∀ {js : List Nat} {cs : List D}, capsOf ρ js = some cs → ∃ ws : List V, js.map (NdefX.slotAt σ) = ws.map some ∧ Reps G N H cs ws
  | [], cs, h => by cases h; exact ⟨[], rfl, rfl⟩
  | j :: js, cs, h => by
    unfold capsOf at h
    split at h
    · rename_i d ds e1 e2
      cases h
      obtain ⟨v, ev, r⟩ := rr.get j d e1
      obtain ⟨ws, e3, rs⟩ := caps_reps rr e2
      exact ⟨v :: ws, by rw [List.map_cons, List.map_cons, NdefX.slotAt_of ev, e3], .cons r rs⟩
    · cases h
theorem lam_er {G : Wd} {N : Addr → Prop} {H : Hp} {Ns : List Str} {ds cs : List D} {vs ws : List V} (tb : TabsG G H) (r1 : Reps G N H ds vs) (r2 : Reps G N H cs ws) : ERel G N H (NdefX.startF Ns vs (ws.map some)) (lamRo Ns.length (ds ++ cs)) := ⟨tb, fun i d e => by
  have r := r1.app r2
  have e' : (ds ++ cs)[i]? = some d := by
    unfold lamRo at e
    rw [List.getElem?_append] at e
    split at e
    · rw [List.getElem?_map] at e
      rcases q : (ds ++ cs)[i]? with _ | d'
      · rw [q] at e; cases e
      · rw [q] at e; cases e; rfl
    · rw [List.getElem?_replicate] at e
      split at e <;> cases e
  obtain ⟨v, e2, rv⟩ := Reps.get' r e'
  refine ⟨v, ?_, rv⟩
  unfold NdefX.startF
  rw [← List.append_assoc, ← List.map_append, List.getElem?_append_left (by rw [List.length_map]; exact (List.getElem?_eq_some_iff.mp e2).1), List.getElem?_map, e2]
  rfl⟩
theorem cells_later {cl : List (Str × Addr)} {fr : List Str} {ws : List (Option V)} {fs : List Addr} {h h' : Heap} {H H' : Hp} (C : NdefX.CellsAt cl fr ws h H) (u : Un fs [] H H' h h') : NdefX.CellsAt cl fr ws h' H' := by
  have kp : ∀ {c : Addr} {v : Option Value}, H c = none → h.IsCell c v → h'.IsCell c v := fun {c v} n ⟨o, ho, hd⟩ => by
    obtain ⟨sl, e⟩ := u.any ho n (fun z => nomatch z)
    exact ⟨_, e, hd⟩
  refine ⟨C.len, fun y c e => ?_, C.inj, fun i y e => ?_⟩
  · obtain ⟨n, v, z⟩ := C.all y c e
    obtain ⟨o, ho, _⟩ := id z
    exact ⟨u.free c o ho n (fun y => nomatch y), v, kp n z⟩
  · obtain ⟨c, hc, hv⟩ := C.has i y e
    refine ⟨c, hc, fun v ev => ?_⟩
    obtain ⟨x, r, z⟩ := hv v ev
    exact ⟨x, r, kp (C.all y c hc).1 z⟩
/-- what is told of a lambda's text and names -/
structure LamTxt (X : Cx) (Nl ps fr : List Str) (js : List Nat) (params : Arguments) (scope : Scope) : Prop where
  sc : NdefX.NScope Nl ps fr scope
  nd : NdefX.ndefB X.env.scope scope fr = true
  js : js.map (fun j => X.N[j]?) = fr.map some
  df : defaultsOf params X.env = ([], [])
  bd : ∀ (body : Expr) (q : Str) (cl : List (Str × Addr)) (pm cv ctv : Value) (us : List Value), us.length = ps.length → bindArgs (PySem.W.kla_fn "<lambda>" q params body scope cl pm cv ctv) ⟨us, []⟩ = pure (ps.zip us)
section
variable {P : Program} {w : World} {G : Wd} {base : Heap} {k : Nat} {X : Cx} {Wx : WX} {pins : List (Addr × Obj)} {σ : Fb.St} {H : Hp} {s : Shared} {N : Addr → Prop} {ρ : Ro}
abbrev cxL (P : Program) (w : World) (G : Wd) (base : Heap) (Nl : List Str) (F : NdefX.NF) (f : Addr) (A : Around) (outer : List Env) (s : Shared) (H : Hp) (E : XK) : Cx := NdefX.ncx (L2.CX P w) P w G.K G.mg base Nl F f A outer s H E
/-- the body of a lambda as an expression, wherever it runs -/
def LamBody (P : Program) (w : World) (G : Wd) (base : Heap) (k : Nat) (q : Str) (Nl : List Str) (params : Arguments) (body : Expr) (scope : Scope) (mb : Ro → W Ex (Bool × D)) : Prop :=
  ∀ (cl : List (Str × Addr)) (c' f : Addr) (A : Around) (outer : List Env) (s : Shared) (H : Hp) (E : XK), Cz P w G base k (cxL P w G base Nl (lamNF q params scope cl c') f A outer s H E) (wxD E) → DR G (cxL P w G base Nl (lamNF q params scope cl c') f A outer s H E) (wxD E) body mb
theorem lam_asks {kL : Nat} {c : Addr} {Nl ps fr : List Str} {js : List Nat} {params : Arguments} {body : Expr} {scope : Scope} {pos : Pos} {mb : Ro → W Ex (Bool × D)} {cs : List D} {E : Value → Shared → Prop} {Q : Value → Shared → Prop} (Z : Cz P w G base k X Wx) (LA : LamAt G base c (X.env.qual ++ "<lambda>")) (hcode : X.env.code = .ref c)
    (T : LamTxt X Nl ps fr js params scope) (B : LamBody P w G base kL (X.env.qual ++ "<lambda>") Nl params body scope mb) (hk : kL ≤ 100) (I : Inv X pins σ H s) (rr : ERel G N H σ ρ) (hcs : capsOf ρ js = some cs)
    (h : ∀ (k0 : Clo) (H1 : Hp) (s1 : Shared), Inv X pins σ H1 s1 → Same G H H1 → Asks P w G base (kL + 1) k0 (lamSem Nl.length mb) ps.length s1 H1 → H1 k0.c = some (LamX.CodeO k0.c k0.q) → Reps G N H1 cs k0.ws → Q (.ref k0.f) s1) :
    wpAny (model X.prog X.w) X.A (eval (.Lambda params body scope pos) X.env) Q E s := by
  obtain ⟨rfl, rfl, hK, hmg, rfl, hr, hg, tk⟩ := Z
  have hfr := NdefX.ndef_free T.nd
  have hfree : ∀ y ∈ scope.names, y.2 = .free → ∃ c, X.env.cells.lookup y.1 = some c := fun y hy e => (hfr y hy e).elim (fun z => I.ok.has _ (.inl z)) fun z => I.ok.has _ (.inr z)
  refine lam_new I hmg LA hcode rr.tab T.df hfree fun f c' pm ctv H1 s1 I1 sm nf hc hf => ?_
  have C1 := NdefX.cells_of I1 (NdefX.Caps.made (fr := fr) I1.ok hfr (NdefX.ndef_fr T.nd) T.js)
  obtain ⟨ws, ews, rc⟩ := caps_reps (rr.same sm) hcs
  rw [ews] at C1
  have mbm : ∀ r, W.Mono (mb r) := fun r => (B [] 0 0 A0 [] {} (fun _ => none) (fun _ _ _ => True) ⟨rfl, rfl, rfl, rfl, rfl, room0 hk, rfl, takes_of rfl rfl rfl rfl⟩).mono r
  have fnat : ∀ (fs : List Addr) (s : Shared) (H : Hp), Un fs [] H1 H s1.heap s.heap → ∃ sl, s.heap.get? f = some { PySem.W.kla_obj "<lambda>" (X.env.qual ++ "<lambda>") params body scope (cloFrom X.env.cells scope.names []) pm c' ctv with slots := sl } := fun fs s H u => u.any hf nf fun z => nomatch z
  refine h ⟨f, c', X.env.qual ++ "<lambda>", ws⟩ H1 s1 I1 sm ⟨fun ds => mbm _, fun fs s H u _ => ?_, fun fs A outer s2 H2 us vs ds cs2 N2 Q2 E2 hr2 hg2 e0 tb2 u rv rd hl hc2 rc2 q => ?_⟩ hc rc
  · obtain ⟨sl, e⟩ := fnat fs s H u
    exact ⟨_, _, _, _, e⟩
  · obtain ⟨sl, e⟩ := fnat fs s2 H2 u
    have C2 := cells_later C1 u
    refine PySem.W.kla_callFunE hr2.depth e rfl T.sc.co T.sc.gen rfl (NdefX.codeO_at e0.hok hc2) ?_
    have hus : us.length = ps.length := rv.length ▸ hl
    rw [T.bd body _ _ _ _ _ us hus]
    refine wpAny_pure (wpAny_newFunctionEnv T.sc.nocell (fun ⟨n, _⟩ hy => T.sc.par n (List.of_mem_zip hy).1) (fun h₁ hns hsb => ⟨(e0.mod.nolimit.keeps fun b o e => (e0.bs b o e).1).fresh _ hsb, ?_⟩) T.sc.kind)
    have kp : ∀ b o, s2.heap.get? b = some o → h₁.get? b = some o := fun b o e => hsb.extBut b o (Nat.ne_of_lt (Heap.lt_size e)) (Heap.get?_push_of_some _ e)
    have J := NdefX.inv_startN (CX := L2.CX X.prog X.w) (F := lamNF (X.env.qual ++ "<lambda>") params scope (cloFrom X.env.cells scope.names []) c') (f := f) (E := E2) (tk := s2.toks + (ps.zip us).length) T.sc hr2.hd e0 hl rv C2 hns kp
    have hr3 := hr2.deeper (NdefX.envF (lamNF (X.env.qual ++ "<lambda>") params scope (cloFrom X.env.cells scope.names []) c') f s2.heap.objs.size)
    have bd := B (cloFrom X.env.cells scope.names []) c' f A outer s2 H2 E2 ⟨rfl, rfl, rfl, rfl, rfl, hr3, hg2, takes_of rfl rfl rfl rfl⟩
    refine PySem.W.kla_codeExpr (wpAny_mono (bd.pe.run [] _ _ H2 Q2 J ⟨N2, _, lam_er tb2 rd rc2, (mbm _).run (fun _ y => y) (fun x y c dd H' s' r' => y c dd H' s' r') q⟩) (fun v s' hq => ?_) fun e s' hq => hq)
    obtain ⟨w', H', J', rv', q'⟩ := hq
    exact ⟨w', H', J'.os, J'.bare, J'.base, J'.hok, rv', q'⟩
/-! ### calls that hand a lambda over, last -/
def mLam (sem : (List D → Rt) → List D → List D → Rt) (L : List D → Rt) (n : Nat) (js : List Nat) (m : Ro → W Ex (List D)) : Ro → W Ex (Bool × D) := fun ρ => W.bind (m ρ) fun ds => W.got (capsOf ρ js) fun cs => if ds.length + 1 = n then sem L cs ds else W.fail
theorem run_fnl {g : Addr} {fd : FuncData} {gps : List Str} {n j : Nat} {sem : (List D → Rt) → List D → List D → Rt} {L : List D → Rt} {Q : VK} {us : List Value} {vs : List V} {ds cs : List D} {k0 : Clo} (Z : Cz P w G base k X Wx) {kF : Nat} (F : FnL P w G base kF j g fd gps n sem) (hF : kF ≤ k) (hb : Binds X.K fd gps []) (I : Inv X pins σ H s) (tb : TabsG G H) (As : Asks P w G base j k0 L n s H)
    (r : Vals (vs ++ [.ref k0.f]) us) (rd : Reps G N H ds vs) (hl : ds.length + 1 = gps.length) (hc : H k0.c = some (LamX.CodeO k0.c k0.q)) (rc : Reps G N H cs k0.ws) (h : sem L cs ds (PoR G N H Q) (PoX G N Wx H σ)) : wpAny (model X.prog X.w) X.A (call (.ref g) us) (EP X pins σ Q) X.xe s := by
  obtain ⟨rfl, rfl, hK, hmg, rfl, hr, hg, tk⟩ := Z
  have e0 : Env0 X.prog X.w G.K G.mg X.base X.A X.stack s H := by rw [← hK, ← hmg]; exact I.env0
  have lu : (us ++ []).length = gps.length := by
    have := r.length
    rw [List.length_append, rd.length] at this
    rw [List.append_nil]
    simp at this
    omega
  refine wpAny_call (codeAny_mono (F.run X.A X.stack s H ⟨us, []⟩ us vs ds cs N Q (fun c dd H' => Wx c dd σ H') k0 L (hr.mono hF) hg e0 tb As (by have := hb s us I.kIn lu; rwa [List.append_nil] at this) r rd (by rw [rd.length]; exact hl) hc rc ((F.mono L As.mono cs _).run (fun _ z => z) (fun x z => z) h)) fun r s' hq => ?_)
  cases r with
  | error e => exact tk e s' (XE.of_call (E := fun c dd H' => Wx c dd σ H') I (fun cls d H' h => h) hq)
  | ok fl =>
    cases fl with
    | ret u => exact I.after hq
    | next => exact False.elim hq
    | brk => exact False.elim hq
    | cont => exact False.elim hq
theorem mLam_mono {sem : (List D → Rt) → List D → List D → Rt} {L : List D → Rt} {n : Nat} {js : List Nat} {m : Ro → W Ex (List D)} (hs : ∀ cs ds, W.Mono (sem L cs ds)) (hm : ∀ ρ, W.Mono (m ρ)) (ρ : Ro) : W.Mono (mLam sem L n js m ρ) := (hm ρ).bind fun ds => got_mono fun cs => ite_mono (hs cs ds) W.Mono.fail
section
variable {kF kL : Nat} {c : Addr} {x : Str} {gps : List Str} {n : Nat} {sem : (List D → Rt) → List D → List D → Rt} {Nl ps fr : List Str} {js : List Nat} {params : Arguments} {body : Expr} {scope : Scope} {p lpos pos : Pos} {mb : Ro → W Ex (Bool × D)}
/-- the body's reading is monotone -/
theorem LamBody.mono {q : Str} (B : LamBody P w G base kL q Nl params body scope mb) (hk : kL ≤ 100) (r : Ro) : W.Mono (mb r) := (B [] 0 0 A0 [] {} (fun _ => none) (fun _ _ _ => True) ⟨rfl, rfl, rfl, rfl, rfl, room0 hk, rfl, takes_of rfl rfl rfl rfl⟩).mono r
/-- x(lambda ..: body) -/
theorem dr_lam0 (Z : Cz P w G base k X Wx) (F : FnKL P w G base kF (kL + 1) x gps ps.length sem) (hF : kF ≤ k) (hg : Gl X x) (LA : LamAt G base c (X.env.qual ++ "<lambda>")) (hcode : X.env.code = .ref c) (T : LamTxt X Nl ps fr js params scope) (B : LamBody P w G base kL (X.env.qual ++ "<lambda>") Nl params body scope mb) (hk : kL ≤ 100) (hdb : (x == ("__debug__" : Str)) = false := by decide) :
    DR G X Wx (.Call (.Name x p) [.Lambda params body scope lpos] [] pos) (mLam sem (lamSem Nl.length mb) gps.length js mNil) := by
  obtain ⟨g, fd, h1, h2, h3, F⟩ := F.ex
  refine ⟨⟨fun pins s σ H Q I ⟨N, ρ, rr, q⟩ => ?_⟩, mLam_mono (F.mono _ fun ds => B.mono hk _) fun _ => W.Mono.ret⟩
  obtain ⟨cs, hcs, q⟩ := got_inv (show (W.got (capsOf ρ js) fun cs => if ([] : List D).length + 1 = gps.length then sem (lamSem Nl.length mb) cs [] else W.fail) _ _ from q)
  obtain ⟨hl, q⟩ := ite_ret q
  refine wpAny_Call_Name_kw (ld_glob I hg (Z.mg ▸ h1) ?_ hdb)
  refine PySem.W.callWith_K (h₀ := X.base) I.ok.mod.kin (Z.K ▸ h2) ?_ (by rfl) (by rfl)
  show wpAny _ _ (spliced ((false, eval (.Lambda params body scope lpos) X.env) :: backTo pos (starEach [] X.env))) _ _ s
  refine Calls.spliced_cons (lam_asks Z LA hcode T B hk I rr hcs fun k0 H1 s1 I1 sm As hc rc => ?_)
  refine Calls.spliced_nil ⟨I1.kIn, ?_⟩
  exact run_fnl (N := Fr N H) (vs := []) (ds := []) Z F hF (Z.K ▸ h3) I1 (sm.tab rr.tab) As (.cons rfl .nil) rfl hl hc (rc.sub fun _ y => .inl y) ((F.mono _ (fun ds => B.mono hk _) _ _).run (fun _ y => y.step sm) (fun _ y => y.step2 sm) q)
/-- x(e1, e2, lambda ..: body) -/
theorem dr_lam2 {e1 e2 : Expr} {m1 m2 : Ro → W Ex D} (Z : Cz P w G base k X Wx) (F : FnKL P w G base kF (kL + 1) x gps ps.length sem) (hF : kF ≤ k) (hg : Gl X x) (LA : LamAt G base c (X.env.qual ++ "<lambda>")) (hcode : X.env.code = .ref c) (T : LamTxt X Nl ps fr js params scope) (B : LamBody P w G base kL (X.env.qual ++ "<lambda>") Nl params body scope mb) (hk : kL ≤ 100)
    (d1 : DE G X Wx e1 m1) (d2 : DE G X Wx e2 m2) (he : starEach [e1, e2, .Lambda params body scope lpos] X.env = (false, eval e1 X.env) :: starEach [e2, .Lambda params body scope lpos] X.env := by rfl) (hpl : (backTo pos (starEach [e2, .Lambda params body scope lpos] X.env)).any (·.1) = false := by rfl) (hdb : (x == ("__debug__" : Str)) = false := by decide)
    (he2 : backTo pos (starEach [e2, .Lambda params body scope lpos] X.env) = (false, eval e2 X.env) :: backTo pos (starEach [.Lambda params body scope lpos] X.env) := by rfl) :
    DR G X Wx (.Call (.Name x p) [e1, e2, .Lambda params body scope lpos] [] pos) (mLam sem (lamSem Nl.length mb) gps.length js (mCons m1 (mCons m2 mNil))) := by
  obtain ⟨g, fd, h1, h2, h3, F⟩ := F.ex
  refine ⟨⟨fun pins s σ H Q I ⟨N, ρ, rr, q⟩ => ?_⟩, mLam_mono (F.mono _ fun ds => B.mono hk _) fun ρ => (d1.mono ρ).bind fun _ => (((d2.mono ρ).bind fun _ => W.Mono.ret.bind fun _ => W.Mono.ret)).bind fun _ => W.Mono.ret⟩
  refine wpAny_Call_Name_kw (ld_glob I hg (Z.mg ▸ h1) ?_ hdb)
  refine PySem.W.callWith_K (h₀ := X.base) I.ok.mod.kin (Z.K ▸ h2) ?_ he hpl
  rw [he]
  show wpAny _ _ (spliced ((false, eval e1 X.env) :: backTo pos (starEach [e2, .Lambda params body scope lpos] X.env))) _ _ s
  have q : m1 ρ (fun d => m2 ρ (fun e => (W.got (capsOf ρ js) fun cs => if ([d, e] : List D).length + 1 = gps.length then sem (lamSem Nl.length mb) cs [d, e] else W.fail) (PoR G N H Q) (PoX G N Wx H σ)) (PoX G N Wx H σ)) (PoX G N Wx H σ) := q
  refine Calls.spliced_cons (thn (d1.pe.run pins s σ H (fun v H1 => ∃ d, Same G H H1 ∧ Rep G (Fr N H) H1 d v ∧ m2 ρ (fun e => (W.got (capsOf ρ js) fun cs => if ([d, e] : List D).length + 1 = gps.length then sem (lamSem Nl.length mb) cs [d, e] else W.fail) (PoR G N H Q) (PoX G N Wx H σ)) (PoX G N Wx H σ)) I ⟨N, ρ, rr, (d1.mono ρ).run (fun d z v H1 s1 r1 => ⟨d, s1, r1, z⟩) (fun _ z => z) q⟩) fun u1 s1 ⟨v1, H1, I1, r1, d, sm1, rd, q1⟩ => ?_)
  rw [he2]
  have rr1 := rr.same sm1
  refine Calls.spliced_cons (thn (d2.pe.run pins s1 σ H1 (fun v H2 => ∃ e, Same G H1 H2 ∧ Rep G (Fr N H1) H2 e v ∧ (W.got (capsOf ρ js) fun cs => if ([d, e] : List D).length + 1 = gps.length then sem (lamSem Nl.length mb) cs [d, e] else W.fail) (PoR G N H Q) (PoX G N Wx H σ)) I1 ⟨N, ρ, rr1, (d2.mono ρ).run (fun e z v H2 s2 r2 => ⟨e, s2, r2, z⟩) (fun _ z => z.step sm1) q1⟩) fun u2 s2 ⟨v2, H2, I2, r2, e, sm2, re, q2⟩ => ?_)
  show wpAny _ _ (spliced ((false, eval (.Lambda params body scope lpos) X.env) :: backTo pos (starEach [] X.env))) _ _ s2
  obtain ⟨cs, hcs, q3⟩ := got_inv q2
  obtain ⟨hl, q3⟩ := ite_ret q3
  refine Calls.spliced_cons (lam_asks Z LA hcode T B hk I2 (rr1.same sm2) hcs fun k0 H3 s3 I3 sm3 As hc rc => ?_)
  refine Calls.spliced_nil ⟨I3.kIn, ?_⟩
  have sm := (sm1.trans sm2).trans sm3
  have rds : Reps G (Fr N H) H3 [d, e] [v1, v2] := .cons (rd.same (sm2.trans sm3)) (.one ((re.same sm3).sub fun _ y => y.step sm1))
  exact run_fnl (N := Fr N H) (vs := [v1, v2]) (ds := [d, e]) Z F hF (Z.K ▸ h3) I3 (sm.tab rr.tab) As (.cons r1 (.cons r2 (.cons rfl .nil))) rds hl hc (rc.sub fun _ y => .inl y) ((F.mono _ (fun ds => B.mono hk _) _ _).run (fun _ y => y.step sm) (fun _ y => y.step2 sm) q3)
end
end
/-! ### defs that make lambdas; the tables told -/
structure TbIn (ts : List Tb) (c : Addr) (q : Str) : Prop where
  ex : ∃ t ∈ ts, t.c = c ∧ t.q = q ∧ ∀ u ∈ ts, u.P = t.P → u.q = q
abbrev TbAll (G : Wd) (base : Heap) (ts : List Tb) : Prop := ∀ t ∈ ts, LamX.TabB base G.mg t.c t.P
theorem TbIn.at {G : Wd} {base : Heap} {ts : List Tb} {c : Addr} {q : Str} (h : TbIn ts c q) (e : G.tabs = tabsOf ts) (B : TbAll G base ts) : LamAt G base c q := by
  obtain ⟨t, ht, rfl, hq, hu⟩ := h.ex
  refine ⟨t.P, B t ht, by rw [e, ← hq]; exact List.mem_map.mpr ⟨t, ht, rfl⟩, fun p hp z => ?_⟩
  rw [e] at hp
  obtain ⟨u, hu', rfl⟩ := List.mem_map.mp hp
  exact hu u hu' z
theorem fnd_okL {P : Program} {w : World} {G : Wd} {base : Heap} {k : Nat} {f c : Addr} {x qual : Str} {st : Stmt} {fd : FuncData} {Ns ps : List Str} {b : En → WS} (F : Fun G.K x qual st f fd) (hc : fd.code = .ref c) (S : FnScope Ns ps (defScope st)) (hk : k ≤ 100)
    (body : ∀ (A : Around) (outer : List Env) (s : Shared) (H : Hp) (E : XK), Cz P w G base k (cxD P w G base Ns qual (defScope st) f (.ref c) A outer s H E) (wxD E) →
      DSs G (cxD P w G base Ns qual (defScope st) f (.ref c) A outer s H E) (wxD E) (defBody st) b) : FnD P w G base (k + 1) f fd ps (runBody Ns.length b) := by
  obtain ⟨oc, od, kV, doc, pm, an, cdv, ct, osl, rfl, lk, hcd⟩ := F.ex
  obtain rfl : cdv = .ref c := hc
  exact fnd_of lk hcd S (fun ρ => (body A0 [] {} (fun _ => none) (fun _ _ _ => True) (cz_of (room0 hk) rfl)).mono ρ) fun A outer s H E Z => body A outer s H E Z
def lamB (N : List Str) (sc : Scope) (Nl ps fr : List Str) (js : List Nat) (scope : Scope) : Bool := NdefX.nscB Nl ps fr scope && NdefX.ndefB sc scope fr && decide (js.map (fun j => N[j]?) = fr.map some)
theorem lamTxt_by {X : Cx} {N : List Str} {sc : Scope} {Nl ps fr : List Str} {js : List Nat} {params : Arguments} {scope : Scope} (h : lamB N sc Nl ps fr js scope = true) (hN : X.N = N) (hs : X.env.scope = sc) (df : defaultsOf params X.env = ([], []))
    (bd : ∀ (body : Expr) (q : Str) (cl : List (Str × Addr)) (pm cv ctv : Value) (us : List Value), us.length = ps.length → bindArgs (PySem.W.kla_fn "<lambda>" q params body scope cl pm cv ctv) ⟨us, []⟩ = pure (ps.zip us)) : LamTxt X Nl ps fr js params scope := by
  unfold lamB at h
  rw [Bool.and_eq_true, Bool.and_eq_true, decide_eq_true_eq] at h
  exact ⟨NdefX.nscope_by h.1.1, hs ▸ h.1.2, hN ▸ h.2, df, bd⟩
def tbsOk (ts : List Tb) : Bool := ts.all fun t => ts.all fun u => !decide (u.P = t.P) || decide (u.q = t.q)
theorem tbIn_of {ts : List Tb} (h : tbsOk ts = true) {t : Tb} (ht : t ∈ ts) : TbIn ts t.c t.q := ⟨t, ht, rfl, rfl, fun u hu e => by
  have := List.all_eq_true.mp (List.all_eq_true.mp h t ht) u hu
  rw [decide_eq_true e] at this
  simpa using this⟩
end Fb
end

section
set_option Elab.async false
set_option linter.all false
set_option maxRecDepth 100000
set_option maxHeartbeats 4000000
/-! Running a program over data: what is known of the slots, one rule a construct. -/
namespace Fb
open PySem PySem.Spec PyProof.Rows L2
/-- what is known of an expression's slots -/
structure RK (n : Nat) (R : Ro) (l : List (Nat × D)) : Prop where
  len : R.length = n
  get : ∀ i d, l.lookup i = some d → R[i]? = some (some d)
/-- what is known of a statement's slots; true: held alone for certain -/
structure EK (n : Nat) (ρ : En) (l : List (Nat × Bool × D)) : Prop where
  len : ρ.length = n
  get : ∀ i b d, l.lookup i = some (b, d) → ∃ b', ρ[i]? = some (some (b', d)) ∧ (b = true → b' = true)
def roK : List (Nat × Bool × D) → List (Nat × D)
  | [] => []
  | (i, _, d) :: r => (i, d) :: roK r
def seeK (fz : List Nat) : List (Nat × Bool × D) → List (Nat × D)
  | [] => []
  | (i, _, d) :: r => bif fz.contains i then (i, d) :: seeK fz r else seeK fz r
def frzK (fz : List Nat) : List (Nat × Bool × D) → List (Nat × Bool × D)
  | [] => []
  | (i, b, d) :: r => (i, (bif fz.contains i then false else b), d) :: frzK fz r
theorem roFrom_get : ∀ {ρ : En} {i : Nat} {b : Bool} {d : D}, ρ[i]? = some (some (b, d)) → (roFrom ρ)[i]? = some (some d)
  | [], _, _, _, h => by simp at h
  | none :: r, 0, _, _, h => by simp at h
  | some (b, d') :: r, 0, _, _, h => by simp at h; simp [roFrom, h.2]
  | none :: r, i + 1, b, d, h => by
    have := roFrom_get (ρ := r) (i := i) (b := b) (d := d) (by simpa using h)
    simpa [roFrom] using this
  | some (b', d') :: r, i + 1, b, d, h => by
    have := roFrom_get (ρ := r) (i := i) (b := b) (d := d) (by simpa using h)
    simpa [roFrom] using this
theorem roFrom_len : ∀ {ρ : En}, (roFrom ρ).length = ρ.length
  | [] => rfl
  | none :: r => congrArg (· + 1) (roFrom_len (ρ := r))
  | some (_, _) :: r => congrArg (· + 1) (roFrom_len (ρ := r))
theorem seeFrom_get {fz : List Nat} : ∀ {ρ : En} {k i : Nat} {b : Bool} {d : D}, ρ[i]? = some (some (b, d)) → fz.contains (k + i) = true → (seeFrom fz k ρ)[i]? = some (some d)
  | [], _, _, _, _, h, _ => by simp at h
  | none :: r, _, 0, _, _, h, _ => by simp at h
  | some (b', d') :: r, k, 0, b, d, h, hc => by
    simp at h
    have hc : fz.contains k = true := hc
    have e : (b' && !fz.contains k) = false := by rw [hc]; cases b' <;> rfl
    show ((if (b' && !fz.contains k) = true then none else some d') :: seeFrom fz (k + 1) r)[0]? = _
    rw [e, h.2]; rfl
  | none :: r, k, i + 1, b, d, h, hc => by
    have := seeFrom_get (fz := fz) (ρ := r) (k := k + 1) (i := i) (b := b) (d := d) (by simpa using h) (by rw [Nat.add_assoc, Nat.add_comm 1 i]; exact hc)
    simpa [seeFrom] using this
  | some (b', d') :: r, k, i + 1, b, d, h, hc => by
    have := seeFrom_get (fz := fz) (ρ := r) (k := k + 1) (i := i) (b := b) (d := d) (by simpa using h) (by rw [Nat.add_assoc, Nat.add_comm 1 i]; exact hc)
    simpa [seeFrom] using this
theorem seeFrom_len {fz : List Nat} : ∀ {ρ : En} {k : Nat}, (seeFrom fz k ρ).length = ρ.length
  | [], _ => rfl
  | none :: r, k => congrArg (· + 1) (seeFrom_len (ρ := r) (k := k + 1))
  | some (_, _) :: r, k => congrArg (· + 1) (seeFrom_len (ρ := r) (k := k + 1))
theorem frzFrom_get {fz : List Nat} : ∀ {ρ : En} {k i : Nat} {b : Bool} {d : D}, ρ[i]? = some (some (b, d)) → (frzFrom fz k ρ)[i]? = some (some (b && !(fz.contains (k + i)), d))
  | [], _, _, _, _, h => by simp at h
  | none :: r, _, 0, _, _, h => by simp at h
  | some (b', d') :: r, k, 0, b, d, h => by simp at h; simp [frzFrom, h.1, h.2]
  | none :: r, k, i + 1, b, d, h => by
    have := frzFrom_get (fz := fz) (ρ := r) (k := k + 1) (i := i) (b := b) (d := d) (by simpa using h)
    rw [Nat.add_assoc, Nat.add_comm 1 i] at this
    simpa [frzFrom] using this
  | some (b', d') :: r, k, i + 1, b, d, h => by
    have := frzFrom_get (fz := fz) (ρ := r) (k := k + 1) (i := i) (b := b) (d := d) (by simpa using h)
    rw [Nat.add_assoc, Nat.add_comm 1 i] at this
    simpa [frzFrom] using this
theorem roK_look : ∀ {l : List (Nat × Bool × D)} {i : Nat} {d : D}, (roK l).lookup i = some d → ∃ b, l.lookup i = some (b, d)
  | [], _, _, h => by simp [roK] at h
  | (j, b, d') :: r, i, d, h => by
    simp only [roK, List.lookup_cons] at h ⊢
    by_cases e : (i == j) = true
    · simp only [e] at h ⊢; exact ⟨b, by rw [Option.some.inj h]⟩
    · simp only [Bool.not_eq_true] at e
      simp only [e] at h ⊢
      exact roK_look h
theorem seeK_look {fz : List Nat} : ∀ {l : List (Nat × Bool × D)} {i : Nat} {d : D}, (seeK fz l).lookup i = some d → (∃ b, l.lookup i = some (b, d)) ∧ fz.contains i = true
  | [], _, _, h => by simp [seeK] at h
  | (j, b, d') :: r, i, d, h => by
    simp only [seeK] at h
    by_cases e : (i == j) = true
    · have ej : i = j := by simpa using e
      subst ej
      cases hc : fz.contains i with
      | true =>
        rw [hc] at h
        simp only [cond_true, List.lookup_cons, e] at h
        exact ⟨⟨b, by simp only [List.lookup_cons, e]; rw [Option.some.inj h]⟩, rfl⟩
      | false =>
        rw [hc] at h
        have := (seeK_look (l := r) h).2
        rw [hc] at this
        cases this
    · simp only [Bool.not_eq_true] at e
      have h' : (seeK fz r).lookup i = some d := by
        cases hc : fz.contains j with
        | true => rw [hc] at h; simpa only [cond_true, List.lookup_cons, e] using h
        | false => rw [hc] at h; exact h
      obtain ⟨⟨b', h1⟩, h2⟩ := seeK_look h'
      exact ⟨⟨b', by simp only [List.lookup_cons, e]; exact h1⟩, h2⟩
theorem frzK_look {fz : List Nat} : ∀ {l : List (Nat × Bool × D)} {i : Nat} {b : Bool} {d : D}, (frzK fz l).lookup i = some (b, d) → ∃ b', l.lookup i = some (b', d) ∧ (b = true → b' = true ∧ fz.contains i = false)
  | [], _, _, _, h => by simp [frzK] at h
  | (j, b', d') :: r, i, b, d, h => by
    simp only [frzK, List.lookup_cons] at h ⊢
    by_cases e : (i == j) = true
    · simp only [e] at h ⊢
      have ej : i = j := by simpa using e
      subst ej
      simp only [Option.some.injEq, Prod.mk.injEq] at h
      refine ⟨b', by rw [h.2], fun hb => ?_⟩
      rw [hb] at h
      cases hc : fz.contains i with
      | true => rw [hc] at h; exact nomatch h.1
      | false => rw [hc] at h; exact ⟨h.1, rfl⟩
    · simp only [Bool.not_eq_true] at e
      simp only [e] at h ⊢
      exact frzK_look h
theorem mem_look {α : Type} : ∀ {l : List (Nat × α)} {i : Nat} {x : α}, l.lookup i = some x → (i, x) ∈ l
  | [], _, _, h => by simp at h
  | (j, y) :: r, i, x, h => by
    rw [List.lookup_cons] at h
    by_cases q : (i == j) = true
    · simp only [q] at h
      have : i = j := by simpa using q
      rw [this, Option.some.inj h]; exact List.mem_cons_self
    · simp only [Bool.not_eq_true] at q
      simp only [q] at h
      exact List.mem_cons_of_mem _ (mem_look h)
section
variable {n : Nat} {ρ : En} {l : List (Nat × Bool × D)}
theorem EK.ro (h : EK n ρ l) : RK n (ro ρ) (roK l) := ⟨roFrom_len.trans h.len, fun i d e => by
  obtain ⟨b, e⟩ := roK_look e
  obtain ⟨b', e', _⟩ := h.get i b d e
  exact roFrom_get e'⟩
theorem EK.see (h : EK n ρ l) (fz : List Nat) : RK n (see fz ρ) (seeK fz l) := ⟨seeFrom_len.trans h.len, fun i d e => by
  obtain ⟨⟨b, e⟩, hc⟩ := seeK_look e
  obtain ⟨b', e', _⟩ := h.get i b d e
  exact seeFrom_get e' (by rw [Nat.zero_add]; exact hc)⟩
theorem EK.frz (h : EK n ρ l) (fz : List Nat) : EK n (frz fz ρ) (frzK fz l) := ⟨frzFrom_len.trans h.len, fun i b d e => by
  obtain ⟨b0, e, hb⟩ := frzK_look e
  obtain ⟨b', e', h'⟩ := h.get i b0 d e
  refine ⟨_, frzFrom_get e', fun z => ?_⟩
  obtain ⟨z1, z2⟩ := hb z
  rw [h' z1, Nat.zero_add, z2]; rfl⟩
theorem EK.set (h : EK n ρ l) {i : Nat} (hi : i < n) (p : Bool × D) : EK n (ρ.set i (some p)) ((i, p) :: l) := ⟨by rw [List.length_set]; exact h.len, fun j b d e => by
  simp only [List.lookup_cons] at e
  by_cases q : (j == i) = true
  · simp only [q] at e
    have : j = i := by simpa using q
    subst this
    rw [Option.some.inj e]
    exact ⟨b, by rw [List.getElem?_set_self (by rw [h.len]; exact hi)], id⟩
  · simp only [Bool.not_eq_true] at q
    simp only [q] at e
    have ne : i ≠ j := fun z => by rw [z] at q; simp at q
    rw [List.getElem?_set_ne ne]
    exact h.get j b d e⟩
theorem EK.asg (h : EK n ρ l) (fz : List Nat) {i : Nat} (hi : i < n) (r : Bool × D) : EK n (Fb.asg fz i r ρ) ((i, r) :: frzK fz l) := by
  unfold Fb.asg
  by_cases z : (if r.1 = true then immTop r.2 else imm r.2) = true
  · rw [if_pos z]
    refine EK.set ?_ hi r
    refine ⟨h.len, fun j b d e => ?_⟩
    obtain ⟨b0, e, hb⟩ := frzK_look e
    obtain ⟨b', e', h'⟩ := h.get j b0 d e
    exact ⟨b', e', fun y => h' (hb y).1⟩
  · rw [if_neg z]
    exact (h.frz fz).set hi r
theorem EK.asgI (h : EK n ρ l) (fz : List Nat) {i : Nat} (hi : i < n) {r : Bool × D} (z : (if r.1 = true then immTop r.2 else imm r.2) = true) : EK n (Fb.asg fz i r ρ) ((i, r) :: l) := by
  unfold Fb.asg
  rw [if_pos z]
  exact h.set hi r
/-- what is known less well -/
theorem EK.sub (h : EK n ρ l) {l' : List (Nat × Bool × D)} (hl : ∀ x ∈ l', ∃ b, l.lookup x.1 = some (b, x.2.2) ∧ (x.2.1 = true → b = true)) : EK n ρ l' := ⟨h.len, fun i b d e => by
  obtain ⟨b0, e0, h0⟩ := hl (i, b, d) (mem_look e)
  obtain ⟨b', e', h'⟩ := h.get i b0 d e0
  exact ⟨b', e', fun z => h' (h0 z)⟩⟩
theorem EK.nil (h : ρ.length = n) : EK n ρ [] := ⟨h, fun i b d e => nomatch e⟩
theorem EK.cons (h : EK n ρ l) {l' : List (Nat × Bool × D)} {i : Nat} {b b0 : Bool} {d : D} (e : l.lookup i = some (b0, d)) (hb : b = true → b0 = true) (h' : EK n ρ l') : EK n ρ ((i, b, d) :: l') := ⟨h.len, fun j b1 d1 e1 => by
  simp only [List.lookup_cons] at e1
  by_cases q : (j == i) = true
  · simp only [q] at e1
    have : j = i := by simpa using q
    subst this
    cases e1
    obtain ⟨b', e', h2⟩ := h.get _ b0 d e
    exact ⟨b', e', fun z => h2 (hb z)⟩
  · simp only [Bool.not_eq_true] at q
    simp only [q] at e1
    exact h'.get j b1 d1 e1⟩
theorem init_get : ∀ (ds : List D) (m i : Nat) (d : D), ds[i]? = some d → (ds.map (fun d => some (false, d)) ++ List.replicate m (none : Option (Bool × D)))[i]? = some (some (false, d)) := fun ds m i d h => by
  rw [List.getElem?_append_left (by rw [List.length_map]; exact (List.getElem?_eq_some_iff.mp h).1), List.getElem?_map, h]; rfl
def initK (k : Nat) : List D → List (Nat × Bool × D)
  | [] => []
  | d :: ds => (k, false, d) :: initK (k + 1) ds
theorem initK_look : ∀ {ds : List D} {k i : Nat} {b : Bool} {d : D}, (initK k ds).lookup i = some (b, d) → b = false ∧ k ≤ i ∧ ds[i - k]? = some d
  | [], _, _, _, _, h => by simp [initK] at h
  | d' :: ds, k, i, b, d, h => by
    simp only [initK, List.lookup_cons] at h
    by_cases q : (i == k) = true
    · simp only [q] at h
      have : i = k := by simpa using q
      subst this
      cases h
      exact ⟨rfl, Nat.le_refl _, by simp⟩
    · simp only [Bool.not_eq_true] at q
      simp only [q] at h
      obtain ⟨h1, h2, h3⟩ := initK_look h
      refine ⟨h1, by omega, ?_⟩
      rw [show i - k = (i - (k + 1)) + 1 by omega]
      simpa using h3
theorem init_EK (n : Nat) (ds : List D) (h : ds.length ≤ n) : EK n (initEn n ds) (initK 0 ds) := ⟨by unfold initEn; rw [List.length_append, List.length_map, List.length_replicate]; omega, fun i b d e => by
  obtain ⟨rfl, _, h3⟩ := initK_look e
  exact ⟨false, init_get ds _ i d (by simpa using h3), id⟩⟩
end
/-! ### expressions -/
section
variable {n : Nat} {R : Ro} {l : List (Nat × D)} {E : Ex → Prop}
theorem r_var {i : Nat} {d : D} {Q : D → Prop} (h : RK n R l) (e : l.lookup i = some d) (q : Q d) : mVar i R Q E := by
  unfold mVar
  rw [h.get i d e]
  exact q
theorem r_c {d : D} {Q : D → Prop} (q : Q d) : mC d R Q E := q
theorem r_nil {Q : List D → Prop} (q : Q []) : mNil R Q E := q
theorem r_cons {m : Ro → W Ex D} {k : Ro → W Ex (List D)} {Q : List D → Prop} (q : m R (fun d => k R (fun ds => Q (d :: ds)) E) E) : mCons m k R Q E := q
theorem r_star {m : Ro → W Ex D} {k : Ro → W Ex (List D)} {Q : List D → Prop} (q : m R (fun d => asSeq d (fun xs => k R (fun ds => Q (xs ++ ds)) E) E) E) : mStar m k R Q E := q
theorem r_op {g : D → D → W Ex D} {m k : Ro → W Ex D} {Q : D → Prop} (q : m R (fun a => k R (fun b => g a b Q fun _ => False) E) E) : mOp g m k R Q E := q
theorem r_opR {g : D → D → Rt} {m k : Ro → W Ex D} {Q : Bool × D → Prop} (q : m R (fun a => k R (fun b => g a b Q fun _ => False) E) E) : mOpR g m k R Q E := q
theorem r_test {m : Ro → W Ex D} {Q : Bool → Prop} (q : m R (fun d => asB d Q E) E) : mTest m R Q E := q
theorem r_asB {b : Bool} {Q : Bool → Prop} (q : Q b) : asB (.bl b) Q E := q
theorem r_not {m : Ro → W Ex Bool} {Q : Bool → Prop} (q : m R (fun b => Q (!b)) E) : mNot m R Q E := q
theorem r_notV {m : Ro → W Ex D} {Q : D → Prop} (q : m R (fun d => asB d (fun b => Q (.bl (!b))) E) E) : mNotV m R Q E := q
theorem r_and {m k : Ro → W Ex Bool} {Q : Bool → Prop} (q : m R (fun b => (if b = true then k R else W.ret false) Q E) E) : mAnd m k R Q E := q
theorem r_or {m k : Ro → W Ex Bool} {Q : Bool → Prop} (q : m R (fun b => (if b = true then W.ret true else k R) Q E) E) : mOr m k R Q E := q
theorem r_andV {m k : Ro → W Ex D} {Q : D → Prop} (q : m R (fun d => asB d (fun b => (if b = true then k R else W.ret (.bl false)) Q E) E) E) : mAndV m k R Q E := q
theorem r_orV {m k : Ro → W Ex D} {Q : D → Prop} (q : m R (fun d => asB d (fun b => (if b = true then W.ret (.bl true) else k R) Q E) E) E) : mOrV m k R Q E := q
theorem r_ifE {α : Type} {c : Ro → W Ex Bool} {m k : Ro → W Ex α} {Q : α → Prop} (q : c R (fun b => (if b = true then m R else k R) Q E) E) : mIfE c m k R Q E := q
theorem r_chain {g g' : D → D → W Ex D} {m k o : Ro → W Ex D} {Q : D → Prop} (q : m R (fun a => k R (fun b => g a b (fun t => asB t (fun c => (if c = true then W.bind (o R) fun c => W.calm (g' b c) else W.ret (.bl false)) Q E) E) fun _ => False) E) E) : mChain g g' m k o R Q E := q
theorem r_bind {α β ε : Type} {m : W ε α} {k : α → W ε β} {Q : β → Prop} {E : ε → Prop} (q : m (fun a => k a Q E) E) : W.bind m k Q E := q
theorem r_calm {α ε : Type} {m : W ε α} {Q : α → Prop} {E : ε → Prop} (q : m Q fun _ => False) : W.calm m Q E := q
theorem r_up {α : Type} {ρ : En} {m : W Ex α} {Q : α → Prop} {E : Ex × En → Prop} (q : m Q fun x => E (x, ρ)) : up ρ m Q E := q
theorem r_ret {α ε : Type} {a : α} {Q : α → Prop} {E : ε → Prop} (q : Q a) : (W.ret a : W ε α) Q E := q
theorem r_ite {α ε : Type} {c : Prop} [Decidable c] {m k : W ε α} {Q : α → Prop} {E : ε → Prop} (h1 : c → m Q E) (h2 : ¬ c → k Q E) : (if c then m else k) Q E := by
  by_cases h : c
  · rw [if_pos h]; exact h1 h
  · rw [if_neg h]; exact h2 h
theorem r_pos {α ε : Type} {c : Prop} [Decidable c] {m k : W ε α} {Q : α → Prop} {E : ε → Prop} (h : c) (h1 : m Q E) : (if c then m else k) Q E := by rw [if_pos h]; exact h1
theorem r_neg {α ε : Type} {c : Prop} [Decidable c] {m k : W ε α} {Q : α → Prop} {E : ε → Prop} (h : ¬ c) (h1 : k Q E) : (if c then m else k) Q E := by rw [if_neg h]; exact h1
theorem r_t {α ε : Type} {m k : W ε α} {Q : α → Prop} {E : ε → Prop} (h1 : m Q E) : (if true = true then m else k) Q E := by rw [if_pos rfl]; exact h1
theorem r_f {α ε : Type} {m k : W ε α} {Q : α → Prop} {E : ε → Prop} (h1 : k Q E) : (if false = true then m else k) Q E := by rw [if_neg Bool.false_ne_true]; exact h1
theorem r_tup {m : Ro → W Ex (List D)} {Q : D → Prop} (q : m R (fun ds => szd ds (W.ret (.tup ds)) Q E) E) : mTup m R Q E := q
theorem r_lst {m : Ro → W Ex (List D)} {Q : Bool × D → Prop} (q : m R (fun ds => szd ds (W.ret (true, .lst ds)) Q E) E) : mLst m R Q E := q
theorem r_szd {α : Type} {ds : List D} {m : W Ex α} {Q : α → Prop} (h : ds.length ≤ sizeLine) (q : m Q E) : szd ds m Q E := by
  unfold szd; rw [if_pos h]; exact q
theorem sz_small {ds : List D} (h : ds.length ≤ 1000) : ds.length ≤ sizeLine := Nat.le_trans h (by rw [sizeLine_eq]; decide)
theorem r_dic0 {Q : Bool × D → Prop} (q : Q (true, .dic [])) : mDic0 R Q E := q
theorem r_dic1 {mk m : Ro → W Ex D} {Q : Bool × D → Prop} (q : mk R (fun kd => W.got (keyOf kd) (fun ky => W.bind (m R) fun d => W.ret (true, .dic [(ky, d)])) Q E) E) : mDic1 mk m R Q E := q
theorem r_got {α β ε : Type} {o : Option α} {a : α} {k : α → W ε β} {Q : β → Prop} {E : ε → Prop} (h : o = some a) (q : k a Q E) : W.got o k Q E := by rw [h]; exact q
theorem r_de {m : Ro → W Ex (Bool × D)} {Q : D → Prop} (q : m R (fun r => Q r.2) E) : mDe m R Q E := q
theorem r_dr {m : Ro → W Ex D} {Q : Bool × D → Prop} (q : m R (fun d => Q (false, d)) E) : mDr m R Q E := q
theorem r_call {k : Nat} {sem : List D → Rt} {dds : List D} {m : Ro → W Ex (List D)} {Q : Bool × D → Prop} (q : m R (fun ds => (if (ds ++ dds).length = k then sem (ds ++ dds) else W.fail) Q E) E) : mCall k sem dds m R Q E := q
theorem r_callif {k : Nat} {sem : List D → Rt} {ds : List D} {Q : Bool × D → Prop} (h : ds.length = k) (q : sem ds Q E) : (if (ds ++ []).length = k then sem (ds ++ []) else W.fail) Q E := by
  rw [List.append_nil, if_pos h]; exact q
theorem r_meth {c mn : Str} {k : Nat} {sem : List D → Rt} {dds : List D} {m : Ro → W Ex D} {a : Ro → W Ex (List D)} {Q : Bool × D → Prop} (q : m R (fun d => W.got (asIns c d) (fun fs => if fs.lookup mn = none then W.bind (a R) fun ds => if (d :: (ds ++ dds)).length = k then sem (d :: (ds ++ dds)) else W.fail else W.fail) Q E) E) : mMeth c mn k sem dds m a R Q E := q
theorem r_methif {k : Nat} {sem : List D → Rt} {d : D} {ds : List D} {Q : Bool × D → Prop} (h : (d :: ds).length = k) (q : sem (d :: ds) Q E) : (if (d :: (ds ++ [])).length = k then sem (d :: (ds ++ [])) else W.fail) Q E := by
  rw [List.append_nil, if_pos h]; exact q
theorem r_prop {c : Str} {sem : List D → Rt} {m : Ro → W Ex D} {Q : Bool × D → Prop} (q : m R (fun d => W.got (asIns c d) (fun _ => W.calm (sem [d])) Q E) E) : mProp c sem m R Q E := q
theorem r_fld {c f : Str} {m : Ro → W Ex D} {Q : D → Prop} (q : m R (fun d => gFld c f d Q E) E) : mFld c f m R Q E := q
theorem r_blt {g : List D → Rt} {m : Ro → W Ex (List D)} {Q : Bool × D → Prop} (q : m R (fun ds => g ds Q fun _ => False) E) : mBlt g m R Q E := q
theorem r_slice {m : Ro → W Ex D} {lo hi : Ro → W Ex (Option Int)} {Q : Bool × D → Prop} (q : m R (fun d => lo R (fun a => hi R (fun b => gSl d a b Q E) E) E) E) : mSlice m lo hi R Q E := q
theorem r_nopart {Q : Option Int → Prop} (q : Q none) : mNoPart R Q E := q
theorem r_get1 {m k : Ro → W Ex D} {Q : D → Prop} (q : m R (fun x => W.got (asK x) (fun kvs => W.bind (k R) fun y => W.got (keyOf y) fun k => W.ret ((lookK kvs k).getD .non)) Q E) E) : mGet1 m k R Q E := q
theorem r_get2 {m k o : Ro → W Ex D} {Q : D → Prop} (q : m R (fun x => W.got (asK x) (fun kvs => W.bind (k R) fun y => W.got (keyOf y) fun k => W.bind (o R) fun z => W.ret ((lookK kvs k).getD z)) Q E) E) : mGet2 m k o R Q E := q
theorem r_join {m k : Ro → W Ex D} {Q : D → Prop} (q : m R (fun d => W.got (asS d) (fun a => W.bind (k R) fun e => W.got (seqOf e) fun xs => W.got (strsOf xs) fun ys => if (ys.map (·.length)).sum + ys.length * a.length ≤ 16777216 then W.ret (.str (Txt.join a ys)) else W.fail) Q E) E) : mJoin m k R Q E := q
theorem r_make {c : Str} {k : Nat} {sem : List D → If} {dds : List D} {a : Ro → W Ex (List D)} {Q : Bool × D → Prop} (q : a R (fun ds => (if (ds ++ dds).length + 1 = k then W.bind (sem (ds ++ dds)) fun fs => W.ret (false, .ins c fs) else W.fail) Q E) E) : mMake c k sem dds a R Q E := q
theorem r_items {m : Ro → W Ex D} {Q : Bool × D → Prop} (q : m R (fun d => W.got (asK d) (fun kvs => W.ret (true, .lst (kvs.map Fb.pairD))) Q E) E) : mListItems m R Q E := q
theorem r_itemsV {i : Nat} {Q : List D → Prop} (q : mVar i R (fun d => W.got (asK d) (fun kvs => W.ret (kvs.map pairD)) Q E) E) : mItemsV i R Q E := q
theorem r_itemsF {m : Ro → W Ex (Bool × D)} {Q : List D → Prop} (q : m R (fun r => (if r.1 = true then W.got (asK r.2) fun kvs => W.ret (kvs.map pairD) else W.fail) Q E) E) : mItemsF m R Q E := q
theorem r_walk {m : Ro → W Ex D} {Q : List D → Prop} (q : m R (fun d => walkD d Q E) E) : mWalk m R Q E := q
theorem r_enum {m : Ro → W Ex (List D)} {Q : List D → Prop} (q : m R (fun ds => enumD ds Q E) E) : mEnum m R Q E := q
theorem r_zip {m : Ro → W Ex (List D)} {Q : List D → Prop} (q : m R (fun ds => zippedD ds Q E) E) : mZip m R Q E := q
theorem r_rng1 {m : Ro → W Ex (List D)} {Q : List D → Prop} (q : m R (fun ds => rng1D ds Q E) E) : mRng1 m R Q E := q
theorem r_rng2 {m : Ro → W Ex (List D)} {Q : List D → Prop} (q : m R (fun ds => rng2D ds Q E) E) : mRng2 m R Q E := q
theorem r_lrg1 {m : Ro → W Ex D} {Q : Bool × D → Prop} (q : m R (fun d => W.got (asI d) (fun j => if RgOk 0 j then W.ret (true, .lst (rngD 0 (j - 0).toNat)) else W.fail) Q E) E) : mListRg1 m R Q E := q
theorem r_lrg2 {m k : Ro → W Ex D} {Q : Bool × D → Prop} (q : m R (fun d => W.got (asI d) (fun i => W.bind (k R) fun e => W.got (asI e) fun j => if RgOk i j then W.ret (true, .lst (rngD i (j - i).toNat)) else W.fail) Q E) E) : mListRg2 m k R Q E := q
theorem r_yes {Q : Bool → Prop} (q : Q true) : mYes R Q E := q
theorem r_neg1 {m : Ro → W Ex D} {Q : D → Prop} (q : m R (fun d => mNeg (mC d) [] Q E) E) : mNeg m R Q E := q
/-- .. of an equation -/
theorem r_eq {α ε : Type} {m : W ε α} {a : α} (e : m = W.ret a) {Q : α → Prop} {E : ε → Prop} (q : Q a) : m Q E := by rw [e]; exact q
/-! blocks -/
theorem setR_len : ∀ {bs : List (Nat × D)} {R : Ro}, (setR R bs).length = R.length
  | [], _ => rfl
  | (i, d) :: r, R => (setR_len (bs := r)).trans (List.length_set ..)
theorem wipeR_len {R : Ro} : ∀ {vs : List Nat}, (wipeR R vs).length = R.length
  | [] => rfl
  | v :: vs => by show ((wipeR R vs).set v none).length = _; rw [List.length_set, wipeR_len]
theorem wipeR_else {R : Ro} {j : Nat} : ∀ {vs : List Nat}, vs.contains j = false → (wipeR R vs)[j]? = R[j]?
  | [], _ => rfl
  | v :: vs, h => by
    rw [List.contains_cons, Bool.or_eq_false_iff] at h
    show ((wipeR R vs).set v none)[j]? = _
    have ne : v ≠ j := fun z => by rw [z] at h; simp at h
    rw [List.getElem?_set_ne ne, wipeR_else h.2]
def keyL (bs : List (Nat × D)) : List Nat := bs.map (·.1)
theorem setR_else {j : Nat} : ∀ {bs : List (Nat × D)} {R : Ro}, (keyL bs).contains j = false → (setR R bs)[j]? = R[j]?
  | [], _, _ => rfl
  | (i, d) :: r, R, h => by
    unfold keyL at h
    rw [List.map_cons, List.contains_cons, Bool.or_eq_false_iff] at h
    have ne : i ≠ j := fun z => by rw [z] at h; simp at h
    show (setR (R.set i (some d)) r)[j]? = _
    rw [setR_else h.2, List.getElem?_set_ne ne]
def dupN : List Nat → Bool
  | [] => false
  | i :: r => r.contains i || dupN r
theorem setR_at {j : Nat} {d : D} : ∀ {bs : List (Nat × D)} {R : Ro}, dupN (keyL bs) = false → j < R.length → bs.lookup j = some d → (setR R bs)[j]? = some (some d)
  | [], _, _, _, h => by simp at h
  | (i, d') :: r, R, hn, hl, h => by
    have hn : ((keyL r).contains i || dupN (keyL r)) = false := hn
    rw [Bool.or_eq_false_iff] at hn
    show (setR (R.set i (some d')) r)[j]? = _
    rw [List.lookup_cons] at h
    by_cases q : (j == i) = true
    · simp only [q] at h
      have : j = i := by simpa using q
      subst this
      rw [setR_else hn.1, List.getElem?_set_self hl, Option.some.inj h]
    · simp only [Bool.not_eq_true] at q
      simp only [q] at h
      exact setR_at hn.2 (by rw [List.length_set]; exact hl) h
/-- the names of a block are bound -/
theorem RK.block (h : RK n R l) {vs : List Nat} {bs : List (Nat × D)} (hv : (vs.all fun v => (keyL bs).contains v) = true) (hn : dupN (keyL bs) = false) (hb : ((keyL bs).all fun i => decide (i < n)) = true) : RK n (setR (wipeR R vs) bs) (bs ++ l) := ⟨setR_len.trans (wipeR_len.trans h.len), fun j d e => by
  rw [List.lookup_append] at e
  rcases k : bs.lookup j with _ | d'
  · rw [k] at e
    have e : l.lookup j = some d := e
    have hc : (keyL bs).contains j = false := by
      have : ∀ bs : List (Nat × D), bs.lookup j = none → (keyL bs).contains j = false := by
        intro bs
        induction bs with
        | nil => intro _; rfl
        | cons x r ih =>
          intro k
          rw [List.lookup_cons] at k
          by_cases q : (j == x.1) = true
          · simp only [q] at k; cases k
          · simp only [Bool.not_eq_true] at q
            simp only [q] at k
            show ((j == x.1) || (keyL r).contains j) = false
            rw [q, ih k]; rfl
      exact this bs k
    rw [setR_else hc, wipeR_else]
    · exact h.get j d e
    · rw [Bool.eq_false_iff]
      intro z
      have := List.all_eq_true.mp hv j (by simpa using z)
      rw [hc] at this
      cases this
  · rw [k] at e
    have e : d' = d := by simpa using e
    subst e
    have hj : j < n := by
      have hm := mem_look k
      have := List.all_eq_true.mp hb j (List.mem_map.mpr ⟨_, hm, rfl⟩)
      exact of_decide_eq_true this
    exact setR_at hn (by rw [wipeR_len, h.len]; exact hj) k⟩
theorem r_lc {m : Ro → W Ex (List D)} {vs : List Nat} {p : D → Option (List (Nat × D))} {c : Ro → W Ex Bool} {e : Ro → W Ex D} {Q : Bool × D → Prop} (q : m R (fun ds => szd ds (W.bind (lcN p c e (wipeR R vs) ds) fun ys => W.ret (true, .lst ys)) Q E) E) : mLc m vs p c e R Q E := q
theorem r_dc {m : Ro → W Ex (List D)} {vs : List Nat} {p : D → Option (List (Nat × D))} {c : Ro → W Ex Bool} {e f : Ro → W Ex D} {Q : Bool × D → Prop} (q : m R (fun ds => szd ds (W.bind (dcN p c e f (wipeR R vs) [] ds) fun ys => W.ret (true, .dic ys)) Q E) E) : mDc m vs p c e f R Q E := q
/-- m ends with a -/
def Ev {ε α : Type} (m : W ε α) (a : α) : Prop := ∀ Q E, Q a → m Q E
theorem Ev.run {ε α : Type} {m : W ε α} {a : α} (h : Ev m a) {Q : α → Prop} {E : ε → Prop} (q : Q a) : m Q E := h Q E q
theorem Ev.of {ε α : Type} {m : W ε α} {a : α} (h : m = W.ret a) : Ev m a := fun Q E q => by rw [h]; exact q
/-- what a block's names are bound to -/
structure Bnd (n : Nat) (vs : List Nat) (p : D → Option (List (Nat × D))) (d : D) (bs : List (Nat × D)) : Prop where
  eq : p d = some bs
  all : (vs.all fun v => (keyL bs).contains v) = true := by rfl
  dup : dupN (keyL bs) = false := by rfl
  lt : ((keyL bs).all fun i => decide (i < n)) = true := by rfl
theorem r_lcN {α : Type} (enc : α → D) {vs : List Nat} {p : D → Option (List (Nat × D))} {c : Ro → W Ex Bool} {e : Ro → W Ex D} (bs : α → List (Nat × D)) {t : α → Bool} {f : α → D} (hR : RK n R l) : ∀ (xs : List α),
    (∀ x ∈ xs, Bnd n vs p (enc x) (bs x) ∧ ∀ R', RK n R' (bs x ++ l) → Ev (c R') (t x) ∧ (t x = true → Ev (e R') (f x))) →
    ∀ {Q : List D → Prop}, Q ((xs.filter t).map f) → lcN p c e (wipeR R vs) (xs.map enc) Q E
  | [], _, Q, q => q
  | x :: xs, h, Q, q => by
    obtain ⟨⟨h1, h2, h3, h4⟩, h5⟩ := h x List.mem_cons_self
    have rest := fun {Q : List D → Prop} (q : Q ((xs.filter t).map f)) => r_lcN enc (vs := vs) (p := p) (c := c) (e := e) bs (t := t) (f := f) hR xs (fun y hy => h y (List.mem_cons_of_mem _ hy)) (Q := Q) q
    rw [List.map_cons]
    unfold lcN
    rw [h1]
    obtain ⟨hc, he⟩ := h5 _ (hR.block h2 h3 h4)
    refine hc _ _ ?_
    cases ht : t x with
    | true =>
      refine he ht _ _ ?_
      refine rest ?_
      rw [List.filter_cons, if_pos ht] at q
      exact q
    | false =>
      refine rest ?_
      rw [List.filter_cons, if_neg (by rw [ht]; exact Bool.false_ne_true)] at q
      exact q
/-- .. without tests -/
theorem r_lcY {α : Type} (enc : α → D) {vs : List Nat} {p : D → Option (List (Nat × D))} {e : Ro → W Ex D} (bs : α → List (Nat × D)) {f : α → D} (hR : RK n R l) (xs : List α)
    (h : ∀ x ∈ xs, Bnd n vs p (enc x) (bs x) ∧ ∀ R', RK n R' (bs x ++ l) → Ev (e R') (f x)) {Q : List D → Prop} (q : Q (xs.map f)) : lcN p mYes e (wipeR R vs) (xs.map enc) Q E :=
  r_lcN enc bs (t := fun _ => true) (f := f) hR xs (fun x hx => ⟨(h x hx).1, fun R' hR' => ⟨fun _ _ q => q, fun _ => (h x hx).2 R' hR'⟩⟩) (by rw [List.filter_eq_self.mpr fun _ _ => rfl]; exact q)
/-- a dict block -/
def dcF {α : Type} (k : α → Key) (f : α → D) : List (Key × D) → List α → List (Key × D)
  | kvs, [] => kvs
  | kvs, x :: xs => dcF k f (putD kvs (k x) (f x)) xs
theorem r_dcN {α : Type} (enc : α → D) {vs : List Nat} {p : D → Option (List (Nat × D))} {c : Ro → W Ex Bool} {e g : Ro → W Ex D} (bs : α → List (Nat × D)) {t : α → Bool} {k : α → D} {ky : α → Key} {f : α → D} (hR : RK n R l) : ∀ (xs : List α) (kvs : List (Key × D)),
    (∀ x ∈ xs, Bnd n vs p (enc x) (bs x) ∧ ∀ R', RK n R' (bs x ++ l) → Ev (c R') (t x) ∧ (t x = true → Ev (e R') (k x) ∧ keyOf (k x) = some (ky x) ∧ Ev (g R') (f x))) →
    ∀ {Q : List (Key × D) → Prop}, Q (dcF ky f kvs (xs.filter t)) → dcN p c e g (wipeR R vs) kvs (xs.map enc) Q E
  | [], _, _, Q, q => q
  | x :: xs, kvs, h, Q, q => by
    obtain ⟨⟨h1, h2, h3, h4⟩, h5⟩ := h x List.mem_cons_self
    have rest := fun kvs {Q : List (Key × D) → Prop} (q : Q (dcF ky f kvs (xs.filter t))) => r_dcN enc (vs := vs) (p := p) (c := c) (e := e) (g := g) bs (t := t) (k := k) (ky := ky) (f := f) hR xs kvs (fun y hy => h y (List.mem_cons_of_mem _ hy)) (Q := Q) q
    rw [List.map_cons]
    unfold dcN
    rw [h1]
    obtain ⟨hc, he⟩ := h5 _ (hR.block h2 h3 h4)
    refine hc _ _ ?_
    cases ht : t x with
    | true =>
      obtain ⟨e1, e2, e3⟩ := he ht
      refine e1 _ _ (e3 _ _ ?_)
      show (match keyOf (k x) with | some k => dcN p c e g (wipeR R vs) (putD kvs k (f x)) (xs.map enc) | none => W.fail) Q E
      rw [e2]
      refine rest _ ?_
      rw [List.filter_cons, if_pos ht] at q
      exact q
    | false =>
      refine rest _ ?_
      rw [List.filter_cons, if_neg (by rw [ht]; exact Bool.false_ne_true)] at q
      exact q
end
/-! ### statements -/
section
variable {n : Nat} {ρ : En} {l : List (Nat × Bool × D)} {Q : Fl × En → Prop} {E : Ex × En → Prop}
theorem r_seq {m k : En → WS} (q : m ρ (fun p => andThen k p Q E) E) : mSeq m k ρ Q E := q
theorem r_nx {k : En → WS} (q : k ρ Q E) : andThen k (.nx, ρ) Q E := q
theorem r_rt {k : En → WS} {r : Bool × D} (q : Q (.rt r, ρ)) : andThen k (.rt r, ρ) Q E := q
theorem r_ct {k : En → WS} (q : Q (.ct, ρ)) : andThen k (.ct, ρ) Q E := q
theorem r_bk {k : En → WS} (q : Q (.bk, ρ)) : andThen k (.bk, ρ) Q E := q
theorem r_skip (q : Q (.nx, ρ)) : mSkip ρ Q E := q
theorem r_break (q : Q (.bk, ρ)) : mBreak ρ Q E := q
theorem r_cont (q : Q (.ct, ρ)) : mCont ρ Q E := q
def SetK (fz : List Nat) (i : Nat) (r : Bool × D) (ρ : En) (Q : En → Prop) : Prop := Q (asg fz i r ρ)
theorem r_set {fz : List Nat} {i : Nat} {m : Ro → W Ex (Bool × D)} (h : EK n ρ l) (q : ∀ R, RK n R (seeK fz l) → m R (fun r => SetK fz i r ρ fun ρ' => Q (.nx, ρ')) (fun x => E (x, ρ))) : mSet fz i m ρ Q E := q _ (h.see fz)
theorem r_setK {fz : List Nat} {i : Nat} {r : Bool × D} {Q : En → Prop} (h : EK n ρ l) (hi : i < n) (q : ∀ ρ', EK n ρ' ((i, r) :: frzK fz l) → Q ρ') : SetK fz i r ρ Q := q _ (h.asg fz hi r)
theorem r_setI {fz : List Nat} {i : Nat} {r : Bool × D} {Q : En → Prop} (h : EK n ρ l) (z : (if r.1 = true then immTop r.2 else imm r.2) = true) (hi : i < n) (q : ∀ ρ', EK n ρ' ((i, r) :: l) → Q ρ') : SetK fz i r ρ Q := q _ (h.asgI fz hi z)
theorem r_retE {m : Ro → W Ex (Bool × D)} (h : EK n ρ l) (q : ∀ R, RK n R (roK l) → m R (fun r => Q (.rt r, ρ)) (fun x => E (x, ρ))) : mRet m ρ Q E := q _ h.ro
theorem r_retV {i : Nat} {b : Bool} {d : D} (h : EK n ρ l) (e : l.lookup i = some (b, d)) (q : ∀ b', (b = true → b' = true) → Q (.rt (b', d), ρ)) : mRetV i ρ Q E := by
  obtain ⟨b', e', hb⟩ := h.get i b d e
  unfold mRetV
  rw [e']
  exact q b' hb
theorem r_do {m : Ro → W Ex D} (h : EK n ρ l) (q : ∀ R, RK n R (seeK [] l) → m R (fun _ => Q (.nx, ρ)) (fun x => E (x, ρ))) : mDo m ρ Q E := q _ (h.see [])
theorem r_if {c : Ro → W Ex Bool} {m k : En → WS} (h : EK n ρ l) (q : ∀ R, RK n R (roK l) → c R (fun b => (if b = true then m ρ else k ρ) Q E) (fun x => E (x, ρ))) : mIf c m k ρ Q E := q _ h.ro
def ForK (fz : List Nat) (p : D → Option (List (Nat × D))) (b : En → WS) (ds : List D) (ρ : En) (Q : Fl × En → Prop) (E : Ex × En → Prop) : Prop := forN p b ds (frz fz ρ) Q E
theorem r_for {fz : List Nat} {m : Ro → W Ex (List D)} {p : D → Option (List (Nat × D))} {b : En → WS} (h : EK n ρ l) (q : ∀ R, RK n R (seeK fz l) → m R (fun ds => ForK fz p b ds ρ Q E) (fun x => E (x, ρ))) : mFor fz m p b ρ Q E := q _ (h.see fz)
theorem setE_EK : ∀ {bs : List (Nat × D)} {ρ : En} {l : List (Nat × Bool × D)}, EK n ρ l → ((keyL bs).all fun i => decide (i < n)) = true → EK n (setE ρ bs) ((bs.map fun b => (b.1, false, b.2)).reverse ++ l)
  | [], _, _, h, _ => h
  | (i, d) :: r, ρ, l, h, hb => by
    unfold keyL at hb
    rw [List.map_cons, List.all_cons, Bool.and_eq_true] at hb
    have := setE_EK (bs := r) (h.set (of_decide_eq_true hb.1) (false, d)) hb.2
    rw [List.map_cons, List.reverse_cons, List.append_assoc]
    exact this
/-- the ends of a loop's turn -/
def LoopQ (I : En → Prop) (Q : Fl × En → Prop) : Fl × En → Prop
  | (.nx, ρ') => I ρ'
  | (.ct, ρ') => I ρ'
  | (.bk, ρ') => Q (.nx, ρ')
  | (.rt r, ρ') => Q (.rt r, ρ')
/-- going over a list with an invariant of what is done, what is left -/
theorem r_forN {α : Type} (enc : α → D) {p : D → Option (List (Nat × D))} {b : En → WS} (I : List α → List α → En → Prop)
    (hs : ∀ dn x rs ρ, I dn (x :: rs) ρ → ∃ bs, p (enc x) = some bs ∧ ∀ Q', (∀ q, LoopQ (I (dn ++ [x]) rs) Q q → Q' q) → b (setE ρ bs) Q' E) (hl : ∀ dn ρ, I dn [] ρ → Q (.nx, ρ)) : ∀ (xs dn : List α) (ρ : En), I dn xs ρ → forN p b (xs.map enc) ρ Q E
  | [], dn, ρ, h => hl dn ρ h
  | x :: xs, dn, ρ, h => by
    obtain ⟨bs, h1, h2⟩ := hs dn x xs ρ h
    rw [List.map_cons]
    unfold forN
    rw [h1]
    refine h2 _ fun q hq => ?_
    obtain ⟨f, ρ'⟩ := q
    cases f with
    | nx => exact r_forN enc I hs hl xs (dn ++ [x]) ρ' hq
    | ct => exact r_forN enc I hs hl xs (dn ++ [x]) ρ' hq
    | bk => exact hq
    | rt r => exact hq
/-- .. the invariant told by data and what is known of the slots -/
theorem r_forK {α β : Type} (enc : α → D) {fz : List Nat} {p : D → Option (List (Nat × D))} {b : En → WS} {xs : List α} (bs : α → List (Nat × D)) (J : List α → List α → β → Prop) (k : β → List (Nat × Bool × D)) (z : β) (h : EK n ρ l)
    (h0 : ∀ ρ', EK n ρ' (frzK fz l) → EK n ρ' (k z)) (j0 : J [] xs z)
    (hs : ∀ dn x rs z, J dn (x :: rs) z → dn ++ x :: rs = xs → p (enc x) = some (bs x) ∧ ((keyL (bs x)).all fun i => decide (i < n)) = true ∧ ∀ ρ', EK n ρ' (((bs x).map fun b => (b.1, false, b.2)).reverse ++ k z) →
      ∀ Q', (∀ q, LoopQ (fun ρ => ∃ z, J (dn ++ [x]) rs z ∧ EK n ρ (k z)) Q q → Q' q) → b ρ' Q' E)
    (hl : ∀ z, J xs [] z → ∀ ρ', EK n ρ' (k z) → Q (.nx, ρ')) : ForK fz p b (xs.map enc) ρ Q E := by
  refine r_forN enc (fun dn rs ρ => dn ++ rs = xs ∧ ∃ z, J dn rs z ∧ EK n ρ (k z)) (fun dn x rs ρ hI => ?_) (fun dn ρ hI => ?_) xs [] _ ⟨rfl, z, j0, h0 _ (h.frz fz)⟩
  · obtain ⟨e, z, hj, hk⟩ := hI
    obtain ⟨h1, h2, h3⟩ := hs dn x rs z hj e
    refine ⟨bs x, h1, fun Q' hq => h3 _ (setE_EK hk h2) Q' fun q y => hq q ?_⟩
    obtain ⟨f, ρ'⟩ := q
    cases f with
    | nx => exact ⟨by rw [List.append_assoc]; exact e, y⟩
    | ct => exact ⟨by rw [List.append_assoc]; exact e, y⟩
    | bk => exact y
    | rt r => exact y
  · obtain ⟨e, z, hj, hk⟩ := hI
    rw [List.append_nil] at e
    subst e
    exact hl z hj ρ hk
theorem slotL_of {o : Option (Option (Bool × D))} {b' : Bool} {ds : List D} (h : o = some (some (b', .lst ds))) (hb : b' = true) : slotL o = some ds := by subst hb; rw [h]; rfl
theorem slotK_of {o : Option (Option (Bool × D))} {b' : Bool} {ds : List (Key × D)} (h : o = some (some (b', .dic ds))) (hb : b' = true) : slotK o = some ds := by subst hb; rw [h]; rfl
def AppK (fz : List Nat) (i : Nat) (ds : List D) (d : D) (ρ : En) (Q : Fl × En → Prop) (E : Ex × En → Prop) : Prop := (W.got (tak fz i d ρ) fun ρ' => if ds.length < sizeLine then W.ret (Fl.nx, ρ'.set i (some (true, D.lst (ds ++ [d])))) else W.fail) Q E
theorem r_app {fz : List Nat} {i : Nat} {m : Ro → W Ex D} {ds : List D} (h : EK n ρ l) (e : l.lookup i = some (true, .lst ds)) (q : ∀ R, RK n R (seeK fz l) → m R (fun d => AppK fz i ds d ρ Q E) (fun x => E (x, ρ))) : mApp fz i m ρ Q E := by
  obtain ⟨b', e', hb⟩ := h.get i true _ e
  unfold mApp
  rw [slotL_of e' (hb rfl)]
  exact q _ (h.see fz)
theorem r_appK {fz : List Nat} {i : Nat} {ds : List D} {d : D} (h : EK n ρ l) (hd : imm d = true) (hi : i < n) (hz : ds.length < sizeLine) (q : ∀ ρ', EK n ρ' ((i, true, .lst (ds ++ [d])) :: l) → Q (.nx, ρ')) : AppK fz i ds d ρ Q E := by
  unfold AppK tak
  rw [if_pos hd]
  show (if ds.length < sizeLine then W.ret (Fl.nx, ρ.set i (some (true, D.lst (ds ++ [d])))) else W.fail) Q E
  rw [if_pos hz]
  exact q _ (h.set hi _)
def ExtK (fz : List Nat) (i : Nat) (ds : List D) (d : D) (ρ : En) (Q : Fl × En → Prop) (E : Ex × En → Prop) : Prop := (W.got (asL d) fun es => W.got (taks fz i es ρ) fun ρ' => if ds.length + es.length ≤ sizeLine then W.ret (Fl.nx, ρ'.set i (some (true, D.lst (ds ++ es)))) else W.fail) Q E
theorem r_ext {fz : List Nat} {i : Nat} {m : Ro → W Ex D} {ds : List D} (h : EK n ρ l) (e : l.lookup i = some (true, .lst ds)) (q : ∀ R, RK n R (seeK fz l) → m R (fun d => ExtK fz i ds d ρ Q E) (fun x => E (x, ρ))) : mExt fz i m ρ Q E := by
  obtain ⟨b', e', hb⟩ := h.get i true _ e
  unfold mExt
  rw [slotL_of e' (hb rfl)]
  exact q _ (h.see fz)
theorem r_extK {fz : List Nat} {i : Nat} {ds es : List D} (h : EK n ρ l) (hd : imms es = true) (hi : i < n) (hz : ds.length + es.length ≤ sizeLine) (q : ∀ ρ', EK n ρ' ((i, true, .lst (ds ++ es)) :: l) → Q (.nx, ρ')) : ExtK fz i ds (.lst es) ρ Q E := by
  show (W.got (taks fz i es ρ) fun ρ' => if ds.length + es.length ≤ sizeLine then W.ret (Fl.nx, ρ'.set i (some (true, D.lst (ds ++ es)))) else W.fail) Q E
  unfold taks
  rw [if_pos hd]
  show (if ds.length + es.length ≤ sizeLine then W.ret (Fl.nx, ρ.set i (some (true, D.lst (ds ++ es)))) else W.fail) Q E
  rw [if_pos hz]
  exact q _ (h.set hi _)
def PutK (fz : List Nat) (i : Nat) (ds : List (Key × D)) (d k : D) (ρ : En) (Q : Fl × En → Prop) (E : Ex × En → Prop) : Prop := (W.got (keyOf k) fun ky => W.got (tak fz i d ρ) fun ρ' => if ds.length < sizeLine then W.ret (Fl.nx, ρ'.set i (some (true, D.dic (putD ds ky d)))) else W.fail) Q E
theorem r_dput {fz : List Nat} {i : Nat} {mk m : Ro → W Ex D} {ds : List (Key × D)} (h : EK n ρ l) (e : l.lookup i = some (true, .dic ds))
    (q : ∀ R, RK n R (seeK fz l) → m R (fun d => ∀ R, RK n R (roK l) → mk R (fun kd => PutK fz i ds d kd ρ Q E) (fun x => E (x, ρ))) (fun x => E (x, ρ))) (mm : ∀ R, W.Mono (m R)) : mDput fz i mk m ρ Q E := by
  obtain ⟨b', e', hb⟩ := h.get i true _ e
  unfold mDput
  rw [slotK_of e' (hb rfl)]
  exact (mm _).run (fun d z => z _ h.ro) (fun _ z => z) (q _ (h.see fz))
theorem r_putK {fz : List Nat} {i : Nat} {ds : List (Key × D)} {d k : D} {ky : Key} (h : EK n ρ l) (hk : keyOf k = some ky) (hd : imm d = true) (hi : i < n) (hz : ds.length < sizeLine) (q : ∀ ρ', EK n ρ' ((i, true, .dic (putD ds ky d)) :: l) → Q (.nx, ρ')) : PutK fz i ds d k ρ Q E := by
  unfold PutK
  rw [hk]
  show (W.got (tak fz i d ρ) fun ρ' => if ds.length < sizeLine then W.ret (Fl.nx, ρ'.set i (some (true, D.dic (putD ds ky d)))) else W.fail) Q E
  unfold tak
  rw [if_pos hd]
  show (if ds.length < sizeLine then W.ret (Fl.nx, ρ.set i (some (true, D.dic (putD ds ky d)))) else W.fail) Q E
  rw [if_pos hz]
  exact q _ (h.set hi _)
def UnpK (fz : List Nat) (p : D → Option (List (Nat × D))) (d : D) (ρ : En) (Q : Fl × En → Prop) (E : Ex × En → Prop) : Prop := (W.got (p d) fun bs => W.ret (Fl.nx, setE (if imms (bs.map (·.2)) = true then ρ else frz fz ρ) bs)) Q E
theorem r_unp {fz : List Nat} {m : Ro → W Ex D} {p : D → Option (List (Nat × D))} (h : EK n ρ l) (q : ∀ R, RK n R (seeK fz l) → m R (fun d => UnpK fz p d ρ Q E) (fun x => E (x, ρ))) : mUnp fz m p ρ Q E := q _ (h.see fz)
theorem r_unpK {fz : List Nat} {p : D → Option (List (Nat × D))} {d : D} {bs : List (Nat × D)} (h : EK n ρ l) (hp : p d = some bs) (hb : ((keyL bs).all fun i => decide (i < n)) = true) (q : ∀ ρ', EK n ρ' ((bs.map fun b => (b.1, false, b.2)).reverse ++ frzK fz l) → Q (.nx, ρ')) : UnpK fz p d ρ Q E := by
  unfold UnpK
  rw [hp]
  refine q _ (setE_EK ?_ hb)
  by_cases y : imms (bs.map (·.2)) = true
  · rw [if_pos y]
    refine ⟨h.len, fun j b d e => ?_⟩
    obtain ⟨b0, e, hb⟩ := frzK_look e
    obtain ⟨b', e', h'⟩ := h.get j b0 d e
    exact ⟨b', e', fun y => h' (hb y).1⟩
  · rw [if_neg y]; exact h.frz fz
/-- x, y = .. : one store after the other, the stored ones hidden -/
def hidK (hid : List Nat) : List (Nat × D) → List (Nat × D)
  | [] => []
  | (i, d) :: r => bif hid.contains i then hidK hid r else (i, d) :: hidK hid r
theorem hidK_look {hid : List Nat} : ∀ {l : List (Nat × D)} {i : Nat} {d : D}, (hidK hid l).lookup i = some d → l.lookup i = some d ∧ hid.contains i = false
  | [], _, _, h => by simp [hidK] at h
  | (j, d') :: r, i, d, h => by
    simp only [hidK] at h
    by_cases e : (i == j) = true
    · have ej : i = j := by simpa using e
      subst ej
      cases hc : hid.contains i with
      | true =>
        rw [hc] at h
        have := (hidK_look (l := r) h).2
        rw [hc] at this
        cases this
      | false =>
        rw [hc] at h
        simp only [cond_false, List.lookup_cons, e] at h
        exact ⟨by simp only [List.lookup_cons, e]; exact h, rfl⟩
    · simp only [Bool.not_eq_true] at e
      have h' : (hidK hid r).lookup i = some d := by
        cases hc : hid.contains j with
        | true => rw [hc] at h; exact h
        | false => rw [hc] at h; simpa only [cond_false, List.lookup_cons, e] using h
      obtain ⟨h1, h2⟩ := hidK_look h'
      exact ⟨by simp only [List.lookup_cons, e]; exact h1, h2⟩
theorem RK.wipe {R : Ro} {k : List (Nat × D)} (h : RK n R k) (hid : List Nat) : RK n (wipeR R hid) (hidK hid k) := ⟨wipeR_len.trans h.len, fun i d e => by
  obtain ⟨h1, h2⟩ := hidK_look e
  rw [wipeR_else h2]; exact h.get i d h1⟩
theorem r_par {ms : List Pm} (q : parN ρ ms [] ρ (fun ρ' => Q (.nx, ρ')) E) : mPar ms ρ Q E := q
theorem r_parN {ρ0 : En} {i : Nat} {fz : List Nat} {m : Ro → W Ex (Bool × D)} {ms : List Pm} {hid : List Nat} {Q : En → Prop} (h : EK n ρ l) (q : ∀ R, RK n R (hidK hid (seeK fz l)) → m R (fun r => SetK fz i r ρ fun ρ' => parN ρ0 ms (i :: hid) ρ' Q E) (fun x => E (x, ρ0))) : parN ρ0 ((i, fz, m) :: ms) hid ρ Q E := q _ ((h.see fz).wipe hid)
theorem r_par0 {ρ0 : En} {hid : List Nat} {Q : En → Prop} (q : Q ρ) : parN ρ0 [] hid ρ Q E := q
/-- a def's body -/
def EndB (Q : Bool × D → Prop) : Fl × En → Prop := fun p => match p.1 with
  | .nx => Q (false, .non)
  | .rt r => Q r
  | _ => False
theorem r_body {k : Nat} {b : En → WS} {ds : List D} {Q : Bool × D → Prop} {E : Ex → Prop} (hl : ds.length ≤ k) (q : ∀ ρ, EK k ρ (initK 0 ds) → b ρ (EndB Q) (fun p => E p.1)) : runBody k b ds Q E := q _ (init_EK k ds hl)
theorem r_endR {Q : Bool × D → Prop} {r : Bool × D} (q : Q r) : EndB Q (.rt r, ρ) := q
theorem r_endN {Q : Bool × D → Prop} (q : Q (false, .non)) : EndB Q (.nx, ρ) := q
/-- while, by an invariant and a measure -/
theorem r_while {c : Ro → W Ex Bool} {b : En → WS} {β : Type} (J : β → Nat → Prop) (k : β → List (Nat × Bool × D)) (z : β) (m : Nat) (j0 : J z m) (h : EK n ρ (k z)) (mc : ∀ R, W.Mono (c R)) (mb : ∀ ρ, W.Mono (b ρ))
    (hs : ∀ z m, J z m → ∀ ρ', EK n ρ' (k z) → ∀ R, RK n R (roK (k z)) → c R (fun t => (t = true → b ρ' (LoopQ (fun ρ => ∃ z' m', m' < m ∧ J z' m' ∧ EK n ρ (k z')) Q) E) ∧ (t = false → Q (.nx, ρ'))) (fun x => E (x, ρ'))) : mWhile c b ρ Q E := by
  have key : ∀ (m : Nat) (z : β) (ρ : En), J z m → EK n ρ (k z) → ∀ g, m < g → whileN c b g ρ Q E := by
    intro m
    induction m using Nat.strongRecOn with
    | _ m ih =>
      intro z ρ j h g hg
      obtain ⟨g, rfl⟩ : ∃ g', g = g' + 1 := ⟨g - 1, by omega⟩
      show (W.bind (up ρ (c (Fb.ro ρ))) _) Q E
      refine (mc _).run (fun t ht => ?_) (fun _ z => z) (hs z m j ρ h _ h.ro)
      cases t with
      | false => exact ht.2 rfl
      | true =>
        refine (mb ρ).run (fun q hq => ?_) (fun _ z => z) (ht.1 rfl)
        obtain ⟨f, ρ'⟩ := q
        cases f with
        | nx => obtain ⟨z', m', lt, j', h'⟩ := hq; exact ih m' lt z' ρ' j' h' g (by omega)
        | ct => obtain ⟨z', m', lt, j', h'⟩ := hq; exact ih m' lt z' ρ' j' h' g (by omega)
        | bk => exact hq
        | rt r => exact hq
  exact ⟨m + 1, key m z ρ j0 h (m + 1) (Nat.lt_succ_self m)⟩
end
end Fb
end

section
set_option Elab.async false
set_option linter.all false
set_option maxRecDepth 100000
set_option maxHeartbeats 4000000
namespace FbL
open PySem PySem.Spec PyProof.Rows L2 Fb
def sem_is_integer : List D → Rt := runBody 1 (mRet (mDr (mAndV (mDe (mBlt (gIsi) (mCons (mVar 0) (mCons (mC (.ty "int")) mNil)))) (mNotV (mDe (mBlt (gIsi) (mCons (mVar 0) (mCons (mC (.ty "bool")) mNil))))))))
def sem_is_length : List D → Rt := runBody 1 (mRet (mDr (mAndV (mDe (mCall 1 sem_is_integer [] (mCons (mVar 0) mNil))) (mOp gGe (mVar 0) (mC (.int 1))))))
def sem_is_name : List D → Rt := runBody 2 (mSeq (mIf (mOr (mNot (mTest (mDe (mBlt (gIsi) (mCons (mVar 0) (mCons (mC (.ty "str")) mNil)))))) (mNot (mTest (mChain gLe gLe (mC (.int 1)) (mDe (mBlt (g1 lenD) (mCons (mVar 0) mNil))) (mC (.int 4)))))) (mRet (mDr (mC (.bl false)))) mSkip) (mRet (mBlt (g1 allD) (mCons (mDe (mLc (mWalk (mVar 0)) [1] (pName 1) mYes (mOp (gIn false) (mVar 1) (mC (.str "abcdefghijklmnopqrstuvwxyz"))))) mNil))))
def sem_is_number : List D → Rt := runBody 1 (mRet (mDr (mAndV (mDe (mCall 1 sem_is_integer [] (mCons (mVar 0) mNil))) (mOp gGe (mVar 0) (mC (.int 0))))))
def sem_is_span : List D → Rt := runBody 1 (mSeq (mIf (mTest (mOp (gIs false) (mVar 0) (mC .non))) (mRet (mDr (mC (.bl true)))) mSkip) (mSeq (mIf (mOr (mNot (mTest (mDe (mBlt (gIsi) (mCons (mVar 0) (mCons (mC (.ty "tuple")) mNil)))))) (mOr (mTest (mOp (gEq true) (mDe (mBlt (g1 lenD) (mCons (mVar 0) mNil))) (mC (.int 2)))) (mOr (mNot (mTest (mDe (mCall 1 sem_is_number [] (mCons (mOp gIx (mVar 0) (mC (.int 0))) mNil))))) (mNot (mTest (mDe (mCall 1 sem_is_number [] (mCons (mOp gIx (mVar 0) (mC (.int 1))) mNil)))))))) (mRet (mDr (mC (.bl false)))) mSkip) (mRet (mDr (mOp gLe (mOp gIx (mVar 0) (mC (.int 0))) (mOp gIx (mVar 0) (mC (.int 1))))))))
def sem_is_person : List D → Rt := runBody 1 (mSeq (mIf (mOr (mNot (mTest (mDe (mBlt (gIsi) (mCons (mVar 0) (mCons (mC (.ty "tuple")) mNil)))))) (mOr (mTest (mOp (gEq true) (mDe (mBlt (g1 lenD) (mCons (mVar 0) mNil))) (mC (.int 4)))) (mNot (mTest (mDe (mCall 1 sem_is_name [] (mCons (mOp gIx (mVar 0) (mC (.int 0))) mNil))))))) (mRet (mDr (mC (.bl false)))) mSkip) (mRet (mDr (mAndV (mDe (mCall 1 sem_is_length [] (mCons (mOp gIx (mVar 0) (mC (.int 1))) mNil))) (mAndV (mDe (mCall 1 sem_is_number [] (mCons (mOp gIx (mVar 0) (mC (.int 2))) mNil))) (mDe (mCall 1 sem_is_span [] (mCons (mOp gIx (mVar 0) (mC (.int 3))) mNil))))))))
def sem_is_sequence : List D → Rt := runBody 1 (mRet (mBlt (gIsi) (mCons (mVar 0) (mCons (mTup (mCons (mC (.ty "list")) (mCons (mC (.ty "tuple")) mNil))) mNil))))
def sem_are_people : List D → Rt := runBody 2 (mSeq (mIf (mOr (mNot (mTest (mDe (mCall 1 sem_is_sequence [] (mCons (mVar 0) mNil))))) (mOr (mTest (mOp (gEq false) (mDe (mBlt (g1 lenD) (mCons (mVar 0) mNil))) (mC (.int 0)))) (mNot (mTest (mDe (mBlt (g1 allD) (mCons (mDe (mLc (mWalk (mVar 0)) [1] (pName 1) mYes (mDe (mCall 1 sem_is_person [] (mCons (mVar 1) mNil))))) mNil))))))) (mRet (mDr (mC (.bl false)))) mSkip) (mRet (mDr (mOp (gEq false) (mDe (mBlt (g1 lenD) (mCons (mDe (mDc (mWalk (mVar 0)) [1] (pName 1) mYes (mOp gIx (mVar 1) (mC (.int 0))) (mC (.bl true)))) mNil))) (mDe (mBlt (g1 lenD) (mCons (mVar 0) mNil)))))))
def sem_is_meeting : List D → Rt := runBody 2 (mSeq (mIf (mOr (mNot (mTest (mDe (mBlt (gIsi) (mCons (mVar 1) (mCons (mC (.ty "tuple")) mNil)))))) (mOr (mTest (mOp (gEq true) (mDe (mBlt (g1 lenD) (mCons (mVar 1) mNil))) (mC (.int 3)))) (mNot (mTest (mDe (mCall 1 sem_is_number [] (mCons (mOp gIx (mVar 1) (mC (.int 0))) mNil))))))) (mRet (mDr (mC (.bl false)))) mSkip) (mSeq (mIf (mOr (mNot (mTest (mDe (mCall 1 sem_is_name [] (mCons (mOp gIx (mVar 1) (mC (.int 1))) mNil))))) (mOr (mNot (mTest (mDe (mCall 1 sem_is_name [] (mCons (mOp gIx (mVar 1) (mC (.int 2))) mNil))))) (mTest (mOp (gEq false) (mOp gIx (mVar 1) (mC (.int 1))) (mOp gIx (mVar 1) (mC (.int 2))))))) (mRet (mDr (mC (.bl false)))) mSkip) (mRet (mDr (mAndV (mOp (gIn false) (mOp gIx (mVar 1) (mC (.int 1))) (mVar 0)) (mOp (gIn false) (mOp gIx (mVar 1) (mC (.int 2))) (mVar 0)))))))
def sem_Plan___init__ : List D → If := runIni 6 (mIcons (mIf (mNot (mTest (mDe (mCall 1 sem_are_people [] (mCons (mVar 1) mNil))))) mNo mSkip) (mIcons (mSet [1] 3 (mLc (mWalk (mVar 1)) [4] (pName 4) mYes (mOp gIx (mVar 4) (mC (.int 0))))) (mIcons (mIf (mOr (mNot (mTest (mDe (mCall 1 sem_is_sequence [] (mCons (mVar 2) mNil))))) (mNot (mTest (mDe (mBlt (g1 allD) (mCons (mDe (mLc (mWalk (mVar 2)) [5] (pName 5) mYes (mDe (mCall 2 sem_is_meeting [] (mCons (mVar 3) (mCons (mVar 5) mNil)))))) mNil)))))) mNo mSkip) (mFlds (("people", (mDe (mBlt (gTuple) (mCons (mVar 1) mNil)))) :: (("meetings", (mDe (mBlt (gTuple) (mCons (mVar 2) mNil)))) :: []))))))
def sem_Plan_further : List D → Rt := runBody 2 (mSeq (mIf (mNot (mTest (mDe (mCall 1 sem_is_sequence [] (mCons (mVar 1) mNil))))) mNo mSkip) (mRet (mMake "Plan" 3 sem_Plan___init__ [] (mCons (mFld "Plan" "people" (mVar 0)) (mCons (mDe (mLst (mStar (mFld "Plan" "meetings" (mVar 0)) (mStar (mVar 1) mNil)))) mNil)))))
def sem__law_mixed : List D → Rt := runBody 5 (mSeq (mPar [(2, [1], (mBlt (gList) (mCons (mVar 1) mNil))), (3, [], (mLst mNil))]) (mSeq (mFor [1] (mRng1 (mCons (mDe (mBlt (g1 lenD) (mCons (mVar 1) mNil))) mNil)) (pName 4) (mAppPop 3 2 (mDe (mCall 2 sem__law_choose [] (mCons (mVar 0) (mCons (mDe (mBlt (g1 lenD) (mCons (mVar 2) mNil))) mNil)))))) (mRetV 3)))
def sem__law_one_of : List D → Rt := runBody 2 (mRet (mDr (mOp gIx (mVar 1) (mDe (mCall 2 sem__law_choose [] (mCons (mVar 0) (mCons (mDe (mBlt (g1 lenD) (mCons (mVar 1) mNil))) mNil)))))))
def sem__law_drawn : List D → Rt := runBody 13 (mSeq (mSet [0, 1] 4 (mSlice (mDe (mCall 2 sem__law_mixed [] (mCons (mVar 0) (mCons (mDe (mLst (mCons (mC (.str "ann")) (mCons (mC (.str "bob")) (mCons (mC (.str "cyd")) (mCons (mC (.str "d")) (mCons (mC (.str "eve")) (mCons (mC (.str "zz")) (mCons (mC (.str "meet")) mNil))))))))) mNil)))) mNoPart (mPart (mDe (mOpR gAdd (mC (.int 2)) (mDe (mCall 2 sem__law_choose [] (mCons (mVar 0) (mCons (mOp gSub (mVar 1) (mC (.int 1))) mNil))))))))) (mSeq (mSet [] 5 (mLst mNil)) (mSeq (mFor [4] (mEnum (mCons (mVar 4) mNil)) (pTup 2 (pCons (pName 6) (pCons (pName 7) pNil))) (mSeq (mSet [0] 8 (mCall 2 sem__law_choose [] (mCons (mVar 0) (mCons (mC (.int 6)) mNil)))) (mSeq (mSet [8, 6, 2, 0] 9 (mDr (mIfE (mAnd (mTest (mOp gLt (mVar 6) (mVar 2))) (mTest (mOp gGt (mDe (mCall 2 sem__law_choose [] (mCons (mVar 0) (mCons (mC (.int 5)) mNil)))) (mC (.int 0))))) (mTup (mCons (mVar 8) (mCons (mDe (mOpR gAdd (mVar 8) (mDe (mCall 2 sem__law_choose [] (mCons (mVar 0) (mCons (mC (.int 4)) mNil)))))) mNil))) (mC .non)))) (mApp [7, 9, 0] 5 (mTup (mCons (mVar 7) (mCons (mDe (mOpR gAdd (mC (.int 1)) (mDe (mCall 2 sem__law_one_of [] (mCons (mVar 0) (mCons (mDe (mLst (mCons (mC (.int 0)) (mCons (mC (.int 0)) (mCons (mC (.int 1)) (mCons (mC (.int 2)) mNil)))))) mNil)))))) (mCons (mDe (mCall 2 sem__law_choose [] (mCons (mVar 0) (mCons (mC (.int 4)) mNil)))) (mCons (mVar 9) mNil))))))))) (mSeq (mSet [] 10 (mLst mNil)) (mSeq (mFor [0, 3] (mRng1 (mCons (mDe (mCall 2 sem__law_choose [] (mCons (mVar 0) (mCons (mDe (mOpR gAdd (mVar 3) (mC (.int 1)))) mNil)))) mNil)) (pName 11) (mSeq (mSet [0, 4] 12 (mSlice (mDe (mCall 2 sem__law_mixed [] (mCons (mVar 0) (mCons (mVar 4) mNil)))) mNoPart (mPart (mC (.int 2))))) (mApp [0, 12] 10 (mTup (mCons (mDe (mCall 2 sem__law_choose [] (mCons (mVar 0) (mCons (mC (.int 12)) mNil)))) (mCons (mOp gIx (mVar 12) (mC (.int 0))) (mCons (mOp gIx (mVar 12) (mC (.int 1))) mNil))))))) (mRet (mLst (mCons (mDe (mCall 2 sem__law_mixed [] (mCons (mVar 0) (mCons (mVar 5) mNil)))) (mCons (mVar 10) mNil)))))))))
def sem__law_is_later : List D → Rt := runBody 2 (mRet (mDr (mAndV (mOp (gIs true) (mVar 1) (mC .non)) (mOrV (mOp (gIs false) (mVar 0) (mC .non)) (mOp gGt (mVar 0) (mVar 1))))))
def sem__law_least : List D → Rt := runBody 2 (mSeq (mIf (mOr (mTest (mOp (gIs false) (mVar 0) (mC .non))) (mTest (mOp (gIs false) (mVar 1) (mC .non)))) (mRet (mDr (mIfE (mTest (mOp (gIs false) (mVar 0) (mC .non))) (mVar 1) (mVar 0)))) mSkip) (mRet (mDr (mIfE (mTest (mOp gLt (mVar 0) (mVar 1))) (mVar 0) (mVar 1)))))
def sem_number_in : List D → Rt := runBody 2 (mSeq (mIf (mOr (mNot (mTest (mChain gLe gLe (mC (.int 1)) (mDe (mBlt (g1 lenD) (mCons (mVar 0) mNil))) (mC (.int 19))))) (mNot (mTest (mDe (mBlt (g1 allD) (mCons (mDe (mLc (mWalk (mVar 0)) [1] (pName 1) mYes (mOp (gIn false) (mVar 1) (mC (.str "0123456789"))))) mNil)))))) (mRet (mDr (mC .non))) mSkip) (mRet (mIfE (mAnd (mTest (mOp (gEq false) (mOp gIx (mVar 0) (mC (.int 0))) (mC (.str "0")))) (mTest (mOp gGt (mDe (mBlt (g1 lenD) (mCons (mVar 0) mNil))) (mC (.int 1))))) (mDr (mC .non)) (mBlt (g1 intD) (mCons (mVar 0) mNil)))))
def sem_meeting_in : List D → Rt := runBody 2 (mSeq (mIf (mOr (mTest (mOp (gEq true) (mDe (mBlt (g1 lenD) (mCons (mVar 0) mNil))) (mC (.int 4)))) (mOr (mTest (mOp (gEq true) (mOp gIx (mVar 0) (mC (.int 0))) (mC (.str "meet")))) (mOr (mNot (mTest (mDe (mCall 1 sem_is_name [] (mCons (mOp gIx (mVar 0) (mC (.int 2))) mNil))))) (mNot (mTest (mDe (mCall 1 sem_is_name [] (mCons (mOp gIx (mVar 0) (mC (.int 3))) mNil)))))))) (mRet (mDr (mC .non))) mSkip) (mSeq (mSet [0] 1 (mCall 1 sem_number_in [] (mCons (mOp gIx (mVar 0) (mC (.int 1))) mNil))) (mRet (mDr (mIfE (mTest (mOp (gIs true) (mVar 1) (mC .non))) (mTup (mCons (mVar 1) (mCons (mOp gIx (mVar 0) (mC (.int 2))) (mCons (mOp gIx (mVar 0) (mC (.int 3))) mNil)))) (mC .non))))))
def sem_person_in : List D → Rt := runBody 3 (mSeq (mIf (mOr (mTest (mOp (gIn true) (mDe (mBlt (g1 lenD) (mCons (mVar 0) mNil))) (mTup (mCons (mC (.int 5)) (mCons (mC (.int 6)) mNil))))) (mOr (mTest (mOp (gEq true) (mOp gIx (mVar 0) (mC (.int 0))) (mC (.str "person")))) (mNot (mTest (mDe (mCall 1 sem_is_name [] (mCons (mOp gIx (mVar 0) (mC (.int 1))) mNil))))))) (mRet (mDr (mC .non))) mSkip) (mSeq (mSet [0] 1 (mLc (mWalk (mDe (mSlice (mVar 0) (mPart (mC (.int 2))) mNoPart))) [2] (pName 2) mYes (mDe (mCall 1 sem_number_in [] (mCons (mVar 2) mNil))))) (mSeq (mIf (mTest (mOp (gEq false) (mDe (mSlice (mVar 0) (mPart (mC (.int 4))) mNoPart)) (mDe (mLst (mCons (mC (.str "-")) mNil))))) (mRet (mDr (mIfE (mTest (mOp (gIn true) (mC .non) (mDe (mSlice (mVar 1) mNoPart (mPart (mC (.int 2))))))) (mTup (mCons (mOp gIx (mVar 0) (mC (.int 1))) (mCons (mOp gIx (mVar 1) (mC (.int 0))) (mCons (mOp gIx (mVar 1) (mC (.int 1))) (mCons (mC .non) mNil))))) (mC .non)))) mSkip) (mSeq (mIf (mOr (mTest (mOp (gIn false) (mC .non) (mVar 1))) (mTest (mOp (gEq false) (mDe (mBlt (g1 lenD) (mCons (mVar 0) mNil))) (mC (.int 5))))) (mRet (mDr (mC .non))) mSkip) (mRet (mDr (mTup (mCons (mOp gIx (mVar 0) (mC (.int 1))) (mCons (mOp gIx (mVar 1) (mC (.int 0))) (mCons (mOp gIx (mVar 1) (mC (.int 1))) (mCons (mTup (mCons (mOp gIx (mVar 1) (mC (.int 2))) (mCons (mOp gIx (mVar 1) (mC (.int 3))) mNil))) mNil)))))))))))
def sem_Plan_read : List D → Rt := runBody 9 (mSeq (mPar [(2, [], (mLst mNil)), (3, [], (mLst mNil))]) (mSeq (mFor [1] (mEnum (mCons (mDe (mSplit (mVar 1) (mC (.str "\n")))) mNil)) (pTup 2 (pCons (pName 4) (pCons (pName 5) pNil))) (mSeq (mSet [5] 6 (mSplit (mVar 5) (mC (.str " ")))) (mSeq (mPar [(7, [6], (mCall 1 sem_person_in [] (mCons (mVar 6) mNil))), (8, [6], (mCall 1 sem_meeting_in [] (mCons (mVar 6) mNil)))]) (mIf (mAnd (mTest (mOp (gIs true) (mVar 7) (mC .non))) (mTest (mOp (gEq false) (mDe (mBlt (g1 lenD) (mCons (mVar 3) mNil))) (mC (.int 0))))) (mApp [7] 2 (mVar 7)) (mIf (mTest (mOp (gIs true) (mVar 8) (mC .non))) (mApp [8] 3 (mVar 8)) mNo))))) (mRet (mMakeV "Plan" 3 sem_Plan___init__ [] 0 (mCons (mVar 2) (mCons (mVar 3) mNil))))))
def sem__law_text : List D → Rt := runBody 9 (mSeq (mSet [] 1 (mLst mNil)) (mSeq (mFor [0] (mWalk (mOp gIx (mVar 0) (mC (.int 0)))) (pTup 4 (pCons (pName 2) (pCons (pName 3) (pCons (pName 4) (pCons (pName 5) pNil))))) (mSeq (mSet [5] 6 (mIfE (mTest (mOp (gIs false) (mVar 5) (mC .non))) (mDr (mC (.str "-"))) (mOpR gAdd (mDe (mOpR gAdd (mDe (mBlt (g1 strD) (mCons (mOp gIx (mVar 5) (mC (.int 0))) mNil))) (mC (.str " ")))) (mDe (mBlt (g1 strD) (mCons (mOp gIx (mVar 5) (mC (.int 1))) mNil)))))) (mApp [2, 6, 3, 4] 1 (mJoin (mC (.str " ")) (mDe (mLst (mCons (mC (.str "person")) (mCons (mVar 2) (mCons (mDe (mBlt (g1 strD) (mCons (mVar 3) mNil))) (mCons (mDe (mBlt (g1 strD) (mCons (mVar 4) mNil))) (mCons (mVar 6) mNil))))))))))) (mRet (mDr (mJoin (mC (.str "\n")) (mDe (mOpR gAdd (mVar 1) (mDe (mLc (mWalk (mOp gIx (mVar 0) (mC (.int 1)))) [7, 2, 8] (pTup 3 (pCons (pName 7) (pCons (pName 2) (pCons (pName 8) pNil)))) mYes (mJoin (mC (.str " ")) (mDe (mLst (mCons (mC (.str "meet")) (mCons (mDe (mBlt (g1 strD) (mCons (mVar 7) mNil))) (mCons (mVar 2) (mCons (mVar 8) mNil))))))))))))))))
def sem__law_made : List D → Rt := runBody 1 (mRet (mCmeth "Plan" 2 sem_Plan_read [] (mC (.cls "Plan")) (mCons (mDe (mCall 1 sem__law_text [] (mCons (mVar 0) mNil))) mNil)))
def sem__law_seed0 : List D → Rt := runBody 4 (mSeq (mSet [1] 2 (mOpR gAdd (mOp gMul (mC (.int 8219)) (mVar 1)) (mC (.int 127)))) (mSeq (mIf (mTest (mOp gLt (mVar 1) (mDe (mBlt (g1 lenD) (mCons (mVar 0) mNil))))) (mSet [0, 1] 2 (mBlt (g1 absD) (mCons (mOp gIxScr (mVar 0) (mVar 1)) mNil))) (mIf (mTest (mOp gGt (mDe (mBlt (g1 lenD) (mCons (mVar 0) mNil))) (mC (.int 0)))) (mSet [2, 0, 1] 2 (mOpR gAdd (mVar 2) (mOp gMul (mOp gMod (mDe (mBlt (g1 intD) (mCons (mDe (mBlt (g1 absD) (mCons (mOp gIxScr (mVar 0) (mOp gMod (mDe (mBlt (g1 intD) (mCons (mVar 1) mNil))) (mDe (mBlt (g1 lenD) (mCons (mVar 0) mNil))))) mNil))) mNil))) (mC (.int 2147483629))) (mC (.int 46021))))) mSkip)) (mSeq (mSet [2] 3 (mDr (mIfE (mTest (mOp gGe (mVar 2) (mOp gPow (mC (.int 10)) (mC (.int 18))))) (mVar 2) (mC (.int 0))))) (mRet (mLst (mCons (mVar 3) (mCons (mDe (mOpR gAdd (mOp gMod (mDe (mBlt (g1 intD) (mCons (mDe (mOpR gAdd (mOp gMul (mOp gMod (mDe (mBlt (g1 intD) (mCons (mVar 2) mNil))) (mC (.int 2147483629))) (mC (.int 48271))) (mOp gMul (mC (.int 39119)) (mVar 1)))) mNil))) (mC (.int 2147483629))) (mC (.int 1)))) mNil)))))))
def sem__law_worlds : List D → Rt := runBody 9 (mSeq (mSet [] 1 (mLst (mCons (mDe mDic0) mNil))) (mSeq (mFor [0] (mWalk (mOp gIx (mVar 0) (mC (.int 0)))) (pTup 4 (pCons (pName 2) (pCons (pName 3) (pCons (pName 4) (pCons (pName 5) pNil))))) (mSeq (mSet [1] 6 (mBlt (gList) (mCons (mVar 1) mNil))) (mSeq (mFor [5] (mWalk (mDe (mIfE (mTest (mOp (gIs true) (mVar 5) (mC .non))) (mListRg2 (mOp gIx (mVar 5) (mC (.int 0))) (mDe (mOpR gAdd (mOp gIx (mVar 5) (mC (.int 1))) (mC (.int 1))))) (mLst mNil)))) (pName 7) (mExt [1, 2, 7] 6 (mDe (mLc (mWalk (mVar 1)) [8] (pName 8) mYes (mDe (mBlt (gDictP) (mCons (mDe (mOpR gAdd (mDe (mListItems (mVar 8))) (mDe (mLst (mCons (mTup (mCons (mVar 2) (mCons (mVar 7) mNil))) mNil))))) mNil))))))) (mSet [6] 1 (mDr (mVar 6)))))) (mRetV 1)))
def sem_Plan_names : List D → Rt := runBody 2 (mRet (mBlt (gTuple) (mCons (mDe (mLc (mWalk (mFld "Plan" "people" (mVar 0))) [1] (pName 1) mYes (mOp gIx (mVar 1) (mC (.int 0))))) mNil)))
def sem_passed : List D → Rt := runBody 4 (mSeq (mIf (mOr (mTest (mOp (gIs false) (mVar 0) (mC .non))) (mTest (mOp gGt (mDe (mOpR gAdd (mVar 0) (mVar 1))) (mVar 2)))) (mRetV 3) mSkip) (mRet (mIfE (mTest (mOp (gIs false) (mVar 3) (mC .non))) (mDr (mVar 2)) (mBlt (gMM false) (mCons (mDe (mBlt (g1 intD) (mCons (mVar 2) mNil))) (mCons (mDe (mBlt (g1 intD) (mCons (mVar 3) mNil))) mNil))))))
def sem_days_by : List D → Rt := runBody 10 (mSeq (mSet [1, 0] 2 (mDc (mWalk (mDe (mProp "Plan" sem_Plan_names (mVar 0)))) [8] (pName 8) mYes (mVar 8) (mGet1 (mVar 1) (mVar 8)))) (mSeq (mSet [0] 3 (mDc (mWalk (mFld "Plan" "people" (mVar 0))) [9] (pName 9) mYes (mOp gIx (mVar 9) (mC (.int 0))) (mOp gIx (mVar 9) (mC (.int 1))))) (mSeq (mFor [0] (mWalk (mDe (mBlt (gSorted) (mCons (mFld "Plan" "meetings" (mVar 0)) mNil)))) (pTup 3 (pCons (pName 4) (pCons (pName 5) (pCons (pName 6) pNil)))) (mSeq (mSet [2, 5, 6] 7 (mDr (mTup (mCons (mOp gIx (mVar 2) (mVar 5)) (mCons (mOp gIx (mVar 2) (mVar 6)) mNil))))) (mSeq (mDput [4, 7, 3, 5] 2 (mVar 6) (mDe (mCall 4 sem_passed [] (mCons (mOp gIx (mVar 7) (mC (.int 0))) (mCons (mOp gIx (mVar 3) (mVar 5)) (mCons (mVar 4) (mCons (mOp gIx (mVar 7) (mC (.int 1))) mNil))))))) (mDput [4, 7, 3, 6] 2 (mVar 5) (mDe (mCall 4 sem_passed [] (mCons (mOp gIx (mVar 7) (mC (.int 1))) (mCons (mOp gIx (mVar 3) (mVar 6)) (mCons (mVar 4) (mCons (mOp gIx (mVar 7) (mC (.int 0))) mNil)))))))))) (mRetV 2))))
def sem_lot_by : List D → Rt := runBody 8 (mSeq (mSet [] 4 (mLst mNil)) (mSeq (mFor [0] (mWalk (mFld "Plan" "people" (mVar 0))) (pName 5) (mSeq (mSet [1, 5] 6 (mDr (mOp gIx (mVar 1) (mOp gIx (mVar 5) (mC (.int 0)))))) (mIf (mAnd (mTest (mOp (gIs true) (mVar 6) (mC .non))) (mTest (mOp gLe (mDe (mOpR gAdd (mVar 6) (mOp gIx (mVar 5) (mVar 2)))) (mVar 3)))) (mApp [5] 4 (mOp gIx (mVar 5) (mC (.int 0)))) mSkip))) (mRet (mBlt (gTuple) (mCons (mDe (mBlt (gSorted) (mCons (mDe (mLc (mWalk (mVar 4)) [7] (pName 7) mYes (mDe (mBlt (g1 strD) (mCons (mVar 7) mNil))))) mNil))) mNil)))))
def sem_is_first_one : List D → Rt := runBody 2 (mSeq (mIf (mOr (mNot (mTest (mDe (mBlt (gIsi) (mCons (mVar 1) (mCons (mC (.ty "tuple")) mNil)))))) (mOr (mTest (mOp (gEq true) (mDe (mBlt (g1 lenD) (mCons (mVar 1) mNil))) (mC (.int 2)))) (mNot (mTest (mDe (mBlt (gIsi) (mCons (mOp gIx (mVar 1) (mC (.int 0))) (mCons (mC (.ty "str")) mNil)))))))) (mRet (mDr (mC (.bl false)))) mSkip) (mSeq (mIf (mOr (mTest (mOp (gIn true) (mOp gIx (mVar 1) (mC (.int 0))) (mVar 0))) (mNot (mTest (mDe (mCall 1 sem_is_number [] (mCons (mOp gIx (mVar 1) (mC (.int 1))) mNil)))))) (mRet (mDr (mC (.bl false)))) mSkip) (mRet (mDr (mChain gLe gLe (mOp gIx (mOp gIx (mVar 0) (mOp gIx (mVar 1) (mC (.int 0)))) (mC (.int 0))) (mOp gIx (mVar 1) (mC (.int 1))) (mOp gIx (mOp gIx (mVar 0) (mOp gIx (mVar 1) (mC (.int 0)))) (mC (.int 1))))))))
def sem_spans_of : List D → Rt := runBody 2 (mRet (mDc (mWalk (mFld "Plan" "people" (mVar 0))) [1] (pName 1) (mTest (mOp (gIs true) (mOp gIx (mVar 1) (mC (.int 3))) (mC .non))) (mOp gIx (mVar 1) (mC (.int 0))) (mOp gIx (mVar 1) (mC (.int 3)))))
def sem_need_world : List D → Rt := runBody 6 (mSeq (mIf (mNot (mTest (mDe (mCall 1 sem_is_sequence [] (mCons (mVar 1) mNil))))) mNo mSkip) (mSeq (mPar [(2, [0], (mCall 1 sem_spans_of [] (mCons (mVar 0) mNil))), (3, [], mDic0)]) (mSeq (mFor [1] (mEnum (mCons (mVar 1) mNil)) (pTup 2 (pCons (pName 4) (pCons (pName 5) pNil))) (mSeq (mIf (mOr (mNot (mTest (mDe (mCall 2 sem_is_first_one [] (mCons (mVar 2) (mCons (mVar 5) mNil)))))) (mTest (mOp (gIn false) (mOp gIx (mVar 5) (mC (.int 0))) (mVar 3)))) mNo mSkip) (mDput [5] 3 (mOp gIx (mVar 5) (mC (.int 0))) (mOp gIx (mVar 5) (mC (.int 1)))))) (mRetV 3))))
def sem_able : List D → Rt := runBody 3 (mRet (mCall 4 sem_lot_by [] (mCons (mVar 0) (mCons (mDe (mCall 2 sem_days_by [] (mCons (mVar 0) (mCons (mDe (mCall 2 sem_need_world [] (mCons (mVar 0) (mCons (mVar 1) mNil)))) mNil)))) (mCons (mC (.int 1)) (mCons (mVar 2) mNil))))))
def sem_shows : List D → Rt := runBody 3 (mRet (mCall 4 sem_lot_by [] (mCons (mVar 0) (mCons (mDe (mCall 2 sem_days_by [] (mCons (mVar 0) (mCons (mDe (mCall 2 sem_need_world [] (mCons (mVar 0) (mCons (mVar 1) mNil)))) mNil)))) (mCons (mC (.int 2)) (mCons (mVar 2) mNil))))))
def sem_since : List D → Rt := runBody 4 (mSeq (mSet [0, 1] 2 (mCall 2 sem_days_by [] (mCons (mVar 0) (mCons (mDe (mCall 2 sem_need_world [] (mCons (mVar 0) (mCons (mVar 1) mNil)))) mNil)))) (mRet (mBlt (gTuple) (mCons (mDe (mLc (mWalk (mDe (mProp "Plan" sem_Plan_names (mVar 0)))) [3] (pName 3) mYes (mOp gIx (mVar 2) (mVar 3)))) mNil))))
def sem_law : List D → Rt := runBody 25 (mSeq (mFor [0] (mRng1 (mCons (mDe (mBlt (gMM true) (mCons (mC (.int 1)) (mCons (mDe (mBlt (gMM false) (mCons (mC (.int 4)) (mCons (mDe (mBlt (g1 lenD) (mCons (mVar 0) mNil))) mNil)))) mNil)))) mNil)) (pName 1) (mSeq (mSet [0, 1] 2 (mCall 2 sem__law_seed [] (mCons (mVar 0) (mCons (mVar 1) mNil)))) (mFor [] (mRng1 (mCons (mC (.int 4)) mNil)) (pName 3) (mSeq (mSet [2] 4 (mCall 4 sem__law_drawn [] (mCons (mVar 2) (mCons (mC (.int 5)) (mCons (mC (.int 4)) (mCons (mC (.int 12)) mNil)))))) (mSeq (mPar [(5, [4], (mCall 1 sem__law_made [] (mCons (mVar 4) mNil))), (6, [4], (mCall 1 sem__law_worlds [] (mCons (mVar 4) mNil)))]) (mSeq (mPar [(7, [2, 6], (mCall 2 sem__law_one_of [] (mCons (mVar 2) (mCons (mVar 6) mNil)))), (8, [2, 6], (mCall 2 sem__law_one_of [] (mCons (mVar 2) (mCons (mVar 6) mNil))))]) (mSeq (mSet [7, 8] 9 (mBlt (gDictP) (mCons (mDe (mLc (mWalk (mDe (mOpR gAdd (mDe (mBlt (gList) (mCons (mVar 7) mNil))) (mDe (mBlt (gList) (mCons (mVar 8) mNil)))))) [19] (pName 19) mYes (mTup (mCons (mVar 19) (mCons (mDe (mCall 2 sem__law_least [] (mCons (mGet1 (mVar 7) (mVar 19)) (mCons (mGet1 (mVar 8) (mVar 19)) mNil)))) mNil))))) mNil))) (mSeq (mSet [7] 10 (mListItems (mVar 7))) (mSeq (mPar [(11, [5, 10], (mCall 2 sem_since [] (mCons (mVar 5) (mCons (mVar 10) mNil)))), (12, [5, 8], (mCall 2 sem_since [] (mCons (mVar 5) (mCons (mDe (mListItems (mVar 8))) mNil))))]) (mSeq (mIf (mTest (mOp (gEq true) (mDe (mCall 2 sem_since [] (mCons (mVar 5) (mCons (mDe (mListItems (mVar 9))) mNil)))) (mDe (mBlt (gTuple) (mCons (mDe (mLc (mZip (mCons (mVar 11) (mCons (mVar 12) mNil))) [20, 21] (pTup 2 (pCons (pName 20) (pCons (pName 21) pNil))) mYes (mDe (mCall 2 sem__law_least [] (mCons (mVar 20) (mCons (mVar 21) mNil)))))) mNil))))) (mRet (mDr (mC (.bl false)))) mSkip) (mSeq (mSet [4] 13 (mBlt (gDictP) (mCons (mDe (mLc (mWalk (mOp gIx (mVar 4) (mC (.int 0)))) [19, 22, 23, 24] (pTup 4 (pCons (pName 19) (pCons (pName 22) (pCons (pName 23) (pCons (pName 24) pNil))))) (mTest (mOp (gIs true) (mVar 24) (mC .non))) (mTup (mCons (mVar 19) (mCons (mVar 24) mNil))))) mNil))) (mSeq (mSet [16, 7, 13] 14 (mBlt (gDictP) (mCons (mDe (mLc (mItemsV 7) [19, 16] (pTup 2 (pCons (pName 19) (pCons (pName 16) pNil))) mYes (mTup (mCons (mVar 19) (mCons (mDe (mBlt (gMM false) (mCons (mDe (mBlt (g1 intD) (mCons (mOp gIx (mOp gIx (mVar 13) (mVar 19)) (mC (.int 1))) mNil))) (mCons (mDe (mBlt (g1 intD) (mCons (mDe (mOpR gAdd (mVar 16) (mC (.int 1)))) mNil))) mNil)))) mNil))))) mNil))) (mSeq (mSet [5, 14] 15 (mCall 2 sem_since [] (mCons (mVar 5) (mCons (mDe (mListItems (mVar 14))) mNil)))) (mSeq (mIf (mTest (mOp (gEq true) (mDe (mLc (mZip (mCons (mVar 15) (mCons (mVar 11) mNil))) [20, 21] (pTup 2 (pCons (pName 20) (pCons (pName 21) pNil))) (mTest (mDe (mCall 2 sem__law_is_later [] (mCons (mVar 21) (mCons (mVar 20) mNil))))) (mC (.int 1)))) (mDe (mLst mNil)))) (mRet (mDr (mC (.bl false)))) mSkip) (mSeq (mFor [] (mRng1 (mCons (mC (.int 14)) mNil)) (pName 16) (mSeq (mIf (mTest (mOp (gEq true) (mDe (mLc (mWalk (mDe (mCall 3 sem_shows [] (mCons (mVar 5) (mCons (mVar 10) (mCons (mVar 16) mNil)))))) [19] (pName 19) (mTest (mOp (gIn true) (mVar 19) (mDe (mCall 3 sem_shows [] (mCons (mVar 5) (mCons (mVar 10) (mCons (mDe (mOpR gAdd (mVar 16) (mC (.int 1)))) mNil))))))) (mVar 19))) (mDe (mLst mNil)))) (mRet (mDr (mC (.bl false)))) mSkip) (mIf (mTest (mOp (gEq true) (mDe (mLc (mWalk (mDe (mCall 3 sem_able [] (mCons (mVar 5) (mCons (mVar 10) (mCons (mVar 16) mNil)))))) [19] (pName 19) (mTest (mOp (gIn true) (mVar 19) (mDe (mCall 3 sem_able [] (mCons (mVar 5) (mCons (mVar 10) (mCons (mDe (mOpR gAdd (mVar 16) (mC (.int 1)))) mNil))))))) (mVar 19))) (mDe (mLst mNil)))) (mRet (mDr (mC (.bl false)))) mSkip))) (mSeq (mSet [2, 4] 17 (mSlice (mDe (mCall 2 sem__law_mixed [] (mCons (mVar 2) (mCons (mDe (mLc (mWalk (mOp gIx (mVar 4) (mC (.int 0)))) [19] (pName 19) mYes (mOp gIx (mVar 19) (mC (.int 0))))) mNil)))) mNoPart (mPart (mC (.int 2))))) (mSeq (mSet [5, 2, 17] 18 (mMeth "Plan" "further" 2 sem_Plan_further [] (mVar 5) (mCons (mDe (mLst (mCons (mTup (mCons (mDe (mCall 2 sem__law_choose [] (mCons (mVar 2) (mCons (mC (.int 12)) mNil)))) (mCons (mOp gIx (mVar 17) (mC (.int 0))) (mCons (mOp gIx (mVar 17) (mC (.int 1))) mNil)))) mNil))) mNil))) (mSeq (mIf (mTest (mOp (gEq true) (mDe (mLc (mZip (mCons (mDe (mCall 2 sem_since [] (mCons (mVar 18) (mCons (mVar 10) mNil)))) (mCons (mVar 11) mNil))) [20, 21] (pTup 2 (pCons (pName 20) (pCons (pName 21) pNil))) (mTest (mDe (mCall 2 sem__law_is_later [] (mCons (mVar 20) (mCons (mVar 21) mNil))))) (mC (.int 1)))) (mDe (mLst mNil)))) (mRet (mDr (mC (.bl false)))) mSkip) (mIf (mTest (mOp (gEq true) (mDe (mCall 2 sem_since [] (mCons (mDe (mMake "Plan" 3 sem_Plan___init__ [] (mCons (mOp gIx (mVar 4) (mC (.int 0))) (mCons (mDe (mCall 2 sem__law_mixed [] (mCons (mVar 2) (mCons (mOp gIx (mVar 4) (mC (.int 1))) mNil)))) mNil)))) (mCons (mVar 10) mNil)))) (mVar 11))) (mRet (mDr (mC (.bl false)))) mSkip))))))))))))))))))) (mRet (mDr (mC (.bl true)))))
end FbL
end

section
set_option Elab.async false
set_option linter.all false
set_option maxRecDepth 100000
set_option maxHeartbeats 4000000
namespace FbL
open PySem PySem.Spec PyProof.Rows L2 Fb
theorem is_integer_int (i : Int) : sem_is_integer [.int i] = W.ret (false, .bl true) := rfl
theorem is_number_int (i : Int) : sem_is_number [.int i] = W.ret (false, .bl (decide (0 ≤ i))) := rfl
theorem is_length_int (i : Int) : sem_is_length [.int i] = W.ret (false, .bl (decide (1 ≤ i))) := rfl
theorem is_seq_tup (l : List D) : sem_is_sequence [.tup l] = W.ret (false, .bl true) := rfl
theorem is_seq_lst (l : List D) : sem_is_sequence [.lst l] = W.ret (false, .bl true) := rfl
def spD : Option (Int × Int) → D
  | none => .non
  | some (a, b) => .tup [.int a, .int b]
def spOk : Option (Int × Int) → Bool
  | none => true
  | some (a, b) => decide (0 ≤ a) && decide (0 ≤ b) && decide (a ≤ b)
theorem rb {ε α β : Type} (a : α) (k : α → W ε β) : W.bind (W.ret a) k = k a := rfl
theorem rc {ε α : Type} (a : α) : W.calm (W.ret a : W ε α) = W.ret a := rfl
theorem rl {ε δ α : Type} (f : ε → δ) (a : α) : W.lift f (W.ret a) = W.ret a := rfl
theorem wite {ε α : Type} (b : Bool) (m n : W ε α) (Q : α → Prop) (E : ε → Prop) : (if b = true then m else n) Q E = bif b then m Q E else n Q E := by cases b <;> rfl
theorem run_ret (n : Nat) (b : En → WS) (ds : List D) (r : Bool × D) (ρ : En) (h : b (initEn n ds) = W.ret (.rt r, ρ)) : runBody n b ds = W.ret r := by
  unfold runBody; rw [h]; rfl
theorem seq_nx {m n : En → WS} {ρ ρ' : En} (h : m ρ = W.ret (.nx, ρ')) : mSeq m n ρ = n ρ' := by
  show W.bind (m ρ) _ = _; rw [h]; rfl
theorem seq_rt {m n : En → WS} {ρ ρ' : En} {r : Bool × D} (h : m ρ = W.ret (.rt r, ρ')) : mSeq m n ρ = W.ret (.rt r, ρ') := by
  show W.bind (m ρ) _ = _; rw [h]; rfl
theorem if_eq {c : Ro → W Ex Bool} {m n : En → WS} {ρ : En} (b : Bool) (h : c (ro ρ) = W.ret b) : mIf c m n ρ = if b = true then m ρ else n ρ := by
  show W.bind (up ρ (c (ro ρ))) _ = _; rw [h]; rfl
theorem or_eq {m n : Ro → W Ex Bool} {ρ : Ro} (a b : Bool) (h : m ρ = W.ret a) (h' : a = false → n ρ = W.ret b) : mOr m n ρ = W.ret (a || b) := by
  show W.bind (m ρ) _ = _; rw [h]; cases a
  · exact h' rfl
  · rfl
theorem and_eq {m n : Ro → W Ex Bool} {ρ : Ro} (a b : Bool) (h : m ρ = W.ret a) (h' : a = true → n ρ = W.ret b) : mAnd m n ρ = W.ret (a && b) := by
  show W.bind (m ρ) _ = _; rw [h]; cases a
  · rfl
  · exact h' rfl
theorem andV_eq {m n : Ro → W Ex D} {ρ : Ro} (a b : Bool) (h : m ρ = W.ret (.bl a)) (h' : a = true → n ρ = W.ret (.bl b)) : mAndV m n ρ = W.ret (.bl (a && b)) := by
  show W.bind (m ρ) _ = _; rw [h]; cases a
  · rfl
  · exact h' rfl
theorem not_eq {m : Ro → W Ex Bool} {ρ : Ro} (a : Bool) (h : m ρ = W.ret a) : mNot m ρ = W.ret (!a) := by
  show W.bind (m ρ) _ = _; rw [h]; rfl
theorem test_eq {m : Ro → W Ex D} {ρ : Ro} (a : Bool) (h : m ρ = W.ret (.bl a)) : mTest m ρ = W.ret a := by
  show W.bind (m ρ) _ = _; rw [h]; rfl
theorem guard {c : Ro → W Ex Bool} {m n : En → WS} {ρ : En} {r : Bool × D} (b : Bool) (hc : c (ro ρ) = W.ret b) (hm : m ρ = W.ret (.rt r, ρ)) : mSeq (mIf c m mSkip) n ρ = if b = true then W.ret (.rt r, ρ) else n ρ := by
  cases b
  · rw [seq_nx (if_eq false hc)]; rfl
  · rw [seq_rt (ρ' := ρ) (r := r) ((if_eq true hc).trans hm)]; rfl
theorem guardN {c : Ro → W Ex Bool} {m n : En → WS} {ρ : En} (hc : c (ro ρ) = W.ret false) : mSeq (mIf c m mSkip) n ρ = n ρ := seq_nx (if_eq false hc)
/-- if c: return False, and on -/
theorem guardB {c : Ro → W Ex Bool} {m n : En → WS} {ρ : En} (b t : Bool) (hc : c (ro ρ) = W.ret b) (hm : m ρ = W.ret (.rt (false, .bl false), ρ)) (hn : b = false → n ρ = W.ret (.rt (false, .bl t), ρ)) : mSeq (mIf c m mSkip) n ρ = W.ret (.rt (false, .bl (!b && t)), ρ) := by
  rw [guard b hc hm]
  cases b
  · rw [if_neg Bool.false_ne_true, hn rfl]; rfl
  · rfl
theorem ret_eq {m : Ro → W Ex (Bool × D)} {ρ : En} {r : Bool × D} (h : m (ro ρ) = W.ret r) : mRet m ρ = W.ret (.rt r, ρ) := by
  show W.bind (up _ (m (ro ρ))) _ = _; rw [h]; rfl
theorem dr_eq {m : Ro → W Ex D} {ρ : Ro} {r : D} (h : m ρ = W.ret r) : mDr m ρ = W.ret (false, r) := by
  show W.bind (m ρ) _ = _; rw [h]; rfl
theorem de_eq {m : Ro → W Ex (Bool × D)} {ρ : Ro} {b : Bool} {r : D} (h : m ρ = W.ret (b, r)) : mDe m ρ = W.ret r := by
  show W.bind (m ρ) _ = _; rw [h]; rfl
theorem call_eq {n : Nat} {sem : List D → Rt} {m : Ro → W Ex (List D)} {ρ : Ro} {ds : List D} {r : Bool × D} (hm : m ρ = W.ret ds) (hn : ds.length = n) (h : sem ds = W.ret r) : mCall n sem [] m ρ = W.ret r := by
  show W.bind (m ρ) (fun ds => if (ds ++ []).length = n then sem (ds ++ []) else W.fail) = _
  rw [hm]
  show (if (ds ++ []).length = n then sem (ds ++ []) else W.fail) = _
  rw [List.append_nil, if_pos hn, h]
theorem op_eq {g : D → D → W Ex D} {m n : Ro → W Ex D} {ρ : Ro} {a b r : D} (hm : m ρ = W.ret a) (hn : n ρ = W.ret b) (h : g a b = W.ret r) : mOp g m n ρ = W.ret r := by
  show W.bind (m ρ) (fun a => W.bind (n ρ) fun b => W.calm (g a b)) = _
  rw [hm]
  show W.bind (n ρ) (fun b => W.calm (g a b)) = _
  rw [hn]
  show W.calm (g a b) = _
  rw [h]; rfl
theorem cons_eq {m : Ro → W Ex D} {n : Ro → W Ex (List D)} {ρ : Ro} {d : D} {ds : List D} (hm : m ρ = W.ret d) (hn : n ρ = W.ret ds) : mCons m n ρ = W.ret (d :: ds) := by
  show W.bind (m ρ) (fun d => W.bind (n ρ) fun ds => W.ret (d :: ds)) = _
  rw [hm]
  show W.bind (n ρ) (fun ds => W.ret (d :: ds)) = _
  rw [hn]; rfl
theorem blt_eq {g : List D → Rt} {m : Ro → W Ex (List D)} {ρ : Ro} {ds : List D} {r : Bool × D} (hm : m ρ = W.ret ds) (h : g ds = W.ret r) : mBlt g m ρ = W.ret r := by
  show W.bind (m ρ) (fun ds => W.calm (g ds)) = _
  rw [hm]
  show W.calm (g ds) = _
  rw [h]; rfl
theorem is_span_eq (s : Option (Int × Int)) : sem_is_span [spD s] = W.ret (false, .bl (spOk s)) := by
  rcases s with _ | ⟨a, b⟩
  · rfl
  · refine run_ret _ _ _ _ [some (false, spD (some (a, b)))] ?_
    refine (guard (r := (false, .bl true)) false rfl rfl).trans ?_
    refine (guard (r := (false, .bl false)) (!decide (0 ≤ a) || !decide (0 ≤ b)) (or_eq false _ rfl fun _ => or_eq false _ rfl fun _ => or_eq (!decide (0 ≤ a)) (!decide (0 ≤ b)) rfl fun _ => rfl) rfl).trans ?_
    show (if (!decide (0 ≤ a) || !decide (0 ≤ b)) = true then W.ret (Fl.rt (false, D.bl false), [some (false, spD (some (a, b)))]) else W.ret (Fl.rt (false, D.bl (decide (a ≤ b))), [some (false, spD (some (a, b)))])) = W.ret (Fl.rt (false, D.bl (decide (0 ≤ a) && decide (0 ≤ b) && decide (a ≤ b))), _)
    generalize decide (0 ≤ a) = x
    generalize decide (0 ≤ b) = y
    cases x <;> cases y <;> rfl
def letters : Str := "abcdefghijklmnopqrstuvwxyz"
def nameOk (x : Str) : Bool := decide (1 ≤ x.length) && decide (x.length ≤ 4) && x.cps.toList.all fun c => decide (c ∈ letters.cps.toList)
theorem blsOf_map (l : List Bool) : blsOf (l.map D.bl) = some l := by
  induction l with
  | nil => rfl
  | cons b r ih => show (blsOf (r.map D.bl)).map (b :: ·) = _; rw [ih]; rfl
theorem all_eq {m : Ro → W Ex (List D)} {p : D → Option (List (Nat × D))} {vs : List Nat} {e : Ro → W Ex D} {ρ : Ro} (xs : List D) (t : D → Bool) (hm : m ρ = W.ret xs) (hl : xs.length ≤ sizeLine) (h : ∀ x ∈ xs, ∃ bs, p x = some bs ∧ e (setR (wipeR ρ vs) bs) = W.ret (.bl (t x))) :
    mBlt (g1 allD) (mCons (mDe (mLc m vs p mYes e)) mNil) ρ = W.ret (false, .bl (xs.all t)) := by
  show (W.bind (W.bind (W.bind (W.bind (m ρ) fun ds => szd ds (W.bind (lcN p mYes e (wipeR ρ vs) ds) fun ys => W.ret (true, D.lst ys))) fun r => W.ret r.2) fun d => W.bind (W.ret []) fun ds => W.ret (d :: ds)) fun ds => W.calm (g1 allD ds)) = _
  rw [hm]
  show (W.bind (W.bind (W.bind (szd xs (W.bind (lcN p mYes e (wipeR ρ vs) xs) fun ys => W.ret (true, D.lst ys))) fun r => W.ret r.2) fun d => W.bind (W.ret []) fun ds => W.ret (d :: ds)) fun ds => W.calm (g1 allD ds)) = _
  unfold szd
  rw [if_pos hl, lcN_all (fun x => .bl (t x)) h]
  show W.calm (g1 allD [D.lst (xs.map fun x => D.bl (t x))]) = _
  have : (xs.map fun x => D.bl (t x)) = (xs.map t).map D.bl := by rw [List.map_map]; rfl
  rw [this]
  show W.calm (match (blsOf ((xs.map t).map D.bl)).map fun bs => D.bl (bs.all id) with | some e => W.ret (false, e) | none => W.fail) = _
  rw [blsOf_map]
  show W.ret (false, D.bl ((xs.map t).all id)) = _
  rw [List.all_map]; rfl
theorem sizeLine_ge : 1000 ≤ sizeLine := by rw [sizeLine_eq]; decide
theorem is_name_eq (x : Str) (h : x.length ≤ sizeLine) : sem_is_name [.str x] = W.ret (false, .bl (nameOk x)) := by
  refine run_ret _ _ _ _ [some (false, .str x), none] ?_
  have el : lenD (.str x) = some (.int x.length) := if_pos h
  have e0 : (mDe (mBlt (g1 lenD) (mCons (mVar 0) mNil))) [some (.str x), none] = W.ret (.int x.length) := by
    show (W.bind (W.calm (match lenD (.str x) with | some e => W.ret (false, e) | none => W.fail)) fun r => W.ret r.2 : W Ex D) = _
    rw [el]; rfl
  have e1 : (mChain gLe gLe (mC (.int 1)) (mDe (mBlt (g1 lenD) (mCons (mVar 0) mNil))) (mC (.int 4))) [some (.str x), none] = W.ret (.bl (decide (1 ≤ x.length) && decide (x.length ≤ 4))) := by
    show (W.bind ((mDe (mBlt (g1 lenD) (mCons (mVar 0) mNil))) [some (.str x), none]) fun b => W.bind (W.calm (gLe (.int 1) b)) fun t => W.bind (asB t) fun k => if k = true then W.bind (W.ret (.int 4)) fun c => W.calm (gLe b c) else W.ret (.bl false)) = _
    rw [e0]
    show (if decide ((1 : Int) ≤ x.length) = true then W.ret (D.bl (decide ((x.length : Int) ≤ 4))) else W.ret (.bl false) : W Ex D) = _
    have h1 : decide ((1 : Int) ≤ x.length) = decide (1 ≤ x.length) := decide_eq_decide.mpr (by omega)
    have h2 : decide ((x.length : Int) ≤ 4) = decide (x.length ≤ 4) := decide_eq_decide.mpr (by omega)
    rw [h1, h2]
    cases decide (1 ≤ x.length) <;> rfl
  have e2 : (mBlt (g1 allD) (mCons (mDe (mLc (mWalk (mVar 0)) [1] (pName 1) mYes (mOp (gIn false) (mVar 1) (mC (.str "abcdefghijklmnopqrstuvwxyz"))))) mNil)) [some (.str x), none] = W.ret (false, .bl (x.cps.toList.all fun c => decide (c ∈ letters.cps.toList))) := by
    rw [all_eq (x.cps.toList.map fun c => .str ⟨#[c]⟩) (fun d => match d with | .str z => strIn z letters | _ => false) rfl (by rw [List.length_map]; exact h) fun d hd => by
      obtain ⟨c, _, rfl⟩ := List.mem_map.mp hd
      refine ⟨[(1, .str ⟨#[c]⟩)], rfl, ?_⟩
      show W.ret (D.bl (strIn ⟨#[c]⟩ letters != false)) = W.ret (D.bl (strIn ⟨#[c]⟩ letters))
      rw [Bool.bne_false]]
    rw [List.all_map]
    rfl
  refine (guardB (!(decide (1 ≤ x.length) && decide (x.length ≤ 4))) _ (or_eq false _ rfl fun _ => not_eq _ (test_eq _ e1)) rfl fun _ => ret_eq e2).trans ?_
  rw [Bool.not_not]
  rfl
structure Per where
  nm : Str
  w : Int
  s : Int
  sp : Option (Int × Int)
def perD (p : Per) : D := .tup [.str p.nm, .int p.w, .int p.s, spD p.sp]
structure Met where
  day : Int
  one : Str
  other : Str
def metD (m : Met) : D := .tup [.int m.day, .str m.one, .str m.other]
def perOk (p : Per) : Bool := nameOk p.nm && (decide (1 ≤ p.w) && (decide (0 ≤ p.s) && spOk p.sp))
theorem is_person_eq (p : Per) (h : p.nm.length ≤ sizeLine) : sem_is_person [perD p] = W.ret (false, .bl (perOk p)) := by
  refine run_ret _ _ _ _ [some (false, perD p)] ?_
  have e1 : (mDe (mCall 1 sem_is_name [] (mCons (mOp gIx (mVar 0) (mC (.int 0))) mNil))) [some (perD p)] = W.ret (.bl (nameOk p.nm)) := de_eq (call_eq rfl rfl (is_name_eq _ h))
  have e2 : (mDe (mCall 1 sem_is_span [] (mCons (mOp gIx (mVar 0) (mC (.int 3))) mNil))) [some (perD p)] = W.ret (.bl (spOk p.sp)) := de_eq (call_eq rfl rfl (is_span_eq _))
  refine (guardB (!nameOk p.nm) _ (or_eq false _ rfl fun _ => or_eq false _ rfl fun _ => not_eq _ (test_eq _ e1)) rfl fun _ => ret_eq (dr_eq (andV_eq (decide (1 ≤ p.w)) _ rfl fun _ => andV_eq (decide (0 ≤ p.s)) _ rfl fun _ => e2))).trans ?_
  rw [Bool.not_not]
  rfl
theorem lookK_map {α : Type} (ks : α → Key) (f : α → D) : ∀ (l : List α) (k : Key), lookK (l.map fun a => (ks a, f a)) k = (l.find? fun a => decide (ks a = k)).map f
  | [], k => rfl
  | a :: l, k => by
    rw [List.map_cons, List.find?_cons]
    show (if ks a = k then some (f a) else lookK (l.map fun a => (ks a, f a)) k) = _
    by_cases h : ks a = k
    · rw [if_pos h, decide_eq_true h]; rfl
    · rw [if_neg h, decide_eq_false h, lookK_map ks f l k]
/-- a dict from pairwise different keys -/
theorem dcN_new {α : Type} {p : D → Option (List (Nat × D))} {c : Ro → W Ex Bool} {e f : Ro → W Ex D} {ρ : Ro} (t : α → Bool) (ks : α → Key) (g : α → D) (en : α → D) : ∀ (l : List α) (acc : List (Key × D)), ((acc.map (·.1)) ++ (l.filter t).map ks).Nodup →
    (∀ x ∈ l, ∃ bs y, p (en x) = some bs ∧ c (setR ρ bs) = W.ret (t x) ∧ (t x = true → e (setR ρ bs) = W.ret y ∧ keyOf y = some (ks x) ∧ f (setR ρ bs) = W.ret (g x))) → dcN p c e f ρ acc (l.map en) = W.ret (acc ++ (l.filter t).map fun a => (ks a, g a))
  | [], acc, _, _ => by rw [List.filter_nil, List.map_nil, List.map_nil, List.append_nil]; rfl
  | x :: l, acc, nd, h => by
    obtain ⟨bs, y, h1, h2, h3⟩ := h x List.mem_cons_self
    have hl := fun z hz => h z (List.mem_cons_of_mem _ hz)
    rw [List.map_cons]
    unfold dcN
    rw [h1]
    show (W.bind (W.calm (c (setR ρ bs))) fun b => if b = true then W.bind (W.calm (e (setR ρ bs))) fun y => W.bind (W.calm (f (setR ρ bs))) fun z => match keyOf y with
        | some k => dcN p c e f ρ (putD acc k z) (l.map en)
        | none => W.fail
      else dcN p c e f ρ acc (l.map en)) = _
    rw [h2]
    show (if t x = true then W.bind (W.calm (e (setR ρ bs))) fun y => W.bind (W.calm (f (setR ρ bs))) fun z => match keyOf y with
        | some k => dcN p c e f ρ (putD acc k z) (l.map en)
        | none => W.fail
      else dcN p c e f ρ acc (l.map en)) = _
    cases ht : t x with
    | false =>
      rw [if_neg Bool.false_ne_true]
      rw [List.filter_cons_of_neg (by rw [ht]; exact Bool.false_ne_true)] at nd ⊢
      exact dcN_new t ks g en l acc nd hl
    | true =>
      obtain ⟨e1, e2, e3⟩ := h3 ht
      rw [if_pos rfl, e1]
      show (W.bind (W.calm (f (setR ρ bs))) fun z => match keyOf y with
        | some k => dcN p c e f ρ (putD acc k z) (l.map en)
        | none => W.fail) = _
      rw [e3]
      show (match keyOf y with
        | some k => dcN p c e f ρ (putD acc k (g x)) (l.map en)
        | none => W.fail) = _
      rw [e2]
      show dcN p c e f ρ (putD acc (ks x) (g x)) (l.map en) = _
      rw [List.filter_cons_of_pos ht, List.map_cons] at nd ⊢
      have hno : (acc.any fun kv => decide (kv.1 = ks x)) = false := by
        rw [List.any_eq_false]
        intro kv hkv hk
        have hk : kv.1 = ks x := of_decide_eq_true hk
        exact (List.nodup_append.mp nd).2.2 _ (List.mem_map_of_mem hkv) _ List.mem_cons_self hk
      have hp : putD acc (ks x) (g x) = acc ++ [(ks x, g x)] := by
        unfold putD
        rw [hno]; rfl
      rw [hp, dcN_new t ks g en l _ (by rw [List.map_append, List.append_assoc]; exact nd) hl, List.append_assoc]
      rfl
end FbL
end

section
set_option Elab.async false
set_option linter.all false
set_option maxRecDepth 100000
set_option maxHeartbeats 4000000
namespace FbL
open PySem PySem.Spec PyProof.Rows L2 Fb
abbrev sOk (x : Str) : Bool := PySem.PyData.strOk x
theorem name_strOk {x : Str} (h : nameOk x = true) : sOk x = true := by
  unfold nameOk at h
  have h := (Bool.and_eq_true_iff.mp h).2
  show x.cps.all (fun c => decide (c < 0x110000)) = true
  rw [← Array.all_toList]
  rw [List.all_eq_true] at h ⊢
  intro c hc
  have := of_decide_eq_true (h c hc)
  refine decide_eq_true ?_
  have hb : ∀ c ∈ letters.cps.toList, c < 0x110000 := by decide
  exact hb c this
theorem name_len {x : Str} (h : nameOk x = true) : x.length ≤ 4 := by
  unfold nameOk at h
  exact of_decide_eq_true (Bool.and_eq_true_iff.mp (Bool.and_eq_true_iff.mp h).1).2
theorem name_size {x : Str} (h : nameOk x = true) : x.length ≤ sizeLine := Nat.le_trans (name_len h) (by rw [sizeLine_eq]; decide)
theorem shaped_int (i : Int) : SeqAt.shaped (.int i) = true := rfl
theorem shaped_str {x : Str} (h : sOk x = true) : SeqAt.shaped (.str x) = true := by
  show (sOk x && decide (0 ≤ 64)) = true
  rw [h]; rfl
theorem deq_int (a b : Int) : D.deq (.int a) (.int b) = some (a == b) := rfl
theorem deq_str {a b : Str} (h : sOk a = true) (h' : sOk b = true) : D.deq (.str a) (.str b) = some (a == b) := by
  show (if SeqAt.shaped (.str a) = true ∧ SeqAt.shaped (.str b) = true then some (PyData.eqv (.str a) (.str b)) else none) = _
  rw [if_pos ⟨shaped_str h, shaped_str h'⟩]; rfl
theorem eq_int (neg : Bool) (a b : Int) : gEq neg (.int a) (.int b) = W.ret (.bl ((a == b) != neg)) := rfl
theorem eq_str (neg : Bool) {a b : Str} (h : sOk a = true) (h' : sOk b = true) : gEq neg (.str a) (.str b) = W.ret (.bl ((a == b) != neg)) := by
  unfold gEq; rw [deq_str h h']
theorem pys_map {α : Type} (f : α → D) (g : α → PyData) (h : ∀ a, (f a).py = some (g a)) : ∀ l : List α, D.pys (l.map f) = some (l.map g)
  | [] => rfl
  | a :: l => by
    show (match D.py (f a), D.pys (l.map f) with | some p, some ps => some (p :: ps) | _, _ => none) = _
    rw [h, pys_map f g h l]; rfl
theorem canLay_all : ∀ {l : List PyData}, (∀ d ∈ l, d.canLay0 = true) → PyData.canLayAll0 l = true
  | [], _ => rfl
  | a :: l, h => by
    show (a.canLay0 && PyData.canLayAll0 l) = true
    rw [h a List.mem_cons_self, canLay_all fun d hd => h d (List.mem_cons_of_mem _ hd)]; rfl
theorem depth_all {n : Nat} : ∀ {l : List PyData}, (∀ d ∈ l, d.depth ≤ n) → PyData.depthAll l ≤ n
  | [], _ => Nat.zero_le _
  | a :: l, h => by
    show max a.depth (PyData.depthAll l) ≤ n
    exact Nat.max_le.mpr ⟨h a List.mem_cons_self, depth_all fun d hd => h d (List.mem_cons_of_mem _ hd)⟩
theorem shaped_list {l : List PyData} (h : ∀ d ∈ l, d.canLay0 = true ∧ d.depth ≤ 60) : SeqAt.shaped (.list l) = true ∧ SeqAt.shaped (.tuple l) = true := by
  have h1 := canLay_all fun d hd => (h d hd).1
  have h2 := depth_all fun d hd => (h d hd).2
  constructor
  · show (PyData.canLayAll0 l && decide (PyData.depthAll l + 1 ≤ 64)) = true
    rw [h1, decide_eq_true (by omega)]; rfl
  · show (PyData.canLayAll0 l && decide (PyData.depthAll l + 1 ≤ 64)) = true
    rw [h1, decide_eq_true (by omega)]; rfl
theorem seqIn_strs {x : Str} {l : List Str} (hx : sOk x = true) (h : ∀ y ∈ l, sOk y = true) : seqIn (l.map D.str) (.str x) = some (l.any fun y => y == x) := by
  have hs := shaped_list (l := l.map PyData.str) fun d hd => by
    obtain ⟨y, hy, rfl⟩ := List.mem_map.mp hd
    exact ⟨h y hy, Nat.zero_le _⟩
  unfold seqIn
  rw [pys_map D.str PyData.str (fun _ => rfl)]
  show (if SeqAt.shaped (.str x) = true ∧ SeqAt.shaped (.list (l.map PyData.str)) = true ∧ SeqAt.shaped (.tuple (l.map PyData.str)) = true then some ((l.map PyData.str).any fun z => PyData.eqv z (.str x)) else none) = _
  rw [if_pos ⟨shaped_str hx, hs.1, hs.2⟩, List.any_map]
  rfl
theorem in_strs (neg : Bool) {x : Str} {l : List Str} (hx : sOk x = true) (h : ∀ y ∈ l, sOk y = true) : gIn neg (.str x) (.lst (l.map D.str)) = W.ret (.bl ((l.any fun y => y == x) != neg)) := by
  unfold gIn
  show (match seqIn (l.map D.str) (.str x) with | some t => W.ret (D.bl (t != neg)) | none => W.fail) = _
  rw [seqIn_strs hx h]
/-! ### people -/
def wrapD (t : Bool) (l : List D) : D := if t = true then .tup l else .lst l
theorem is_seq_wrap (t : Bool) (l : List D) : sem_is_sequence [wrapD t l] = W.ret (false, .bl true) := by cases t <;> rfl
theorem len_wrap (t : Bool) (l : List D) : lenD (wrapD t l) = some (.int l.length) := by cases t <;> rfl
theorem walk_wrap (t : Bool) (l : List D) : walkD (wrapD t l) = W.ret l := by cases t <;> rfl
theorem len_eq {m : Ro → W Ex D} {ρ : Ro} {d r : D} (hm : m ρ = W.ret d) (h : lenD d = some r) : (mDe (mBlt (g1 lenD) (mCons m mNil))) ρ = W.ret r := by
  refine de_eq (b := false) (blt_eq (cons_eq hm rfl) ?_)
  show (match lenD d with | some e => W.ret (false, e) | none => W.fail) = _
  rw [h]
theorem walk_eq {m : Ro → W Ex D} {ρ : Ro} {d : D} {l : List D} (hm : m ρ = W.ret d) (h : walkD d = W.ret l) : mWalk m ρ = W.ret l := by
  show W.bind (m ρ) walkD = _
  rw [hm]; exact h
theorem lc_eq {m : Ro → W Ex (List D)} {p : D → Option (List (Nat × D))} {vs : List Nat} {e : Ro → W Ex D} {ρ : Ro} {xs ys : List D} (hm : m ρ = W.ret xs) (hl : xs.length ≤ sizeLine) (h : lcN p mYes e (wipeR ρ vs) xs = W.ret ys) : mLc m vs p mYes e ρ = W.ret (true, .lst ys) := by
  show W.bind (m ρ) (fun ds => szd ds (W.bind (lcN p mYes e (wipeR ρ vs) ds) fun ys => W.ret (true, D.lst ys))) = _
  rw [hm]
  show szd xs _ = _
  unfold szd
  rw [if_pos hl, h]; rfl
theorem dc_eq {m : Ro → W Ex (List D)} {p : D → Option (List (Nat × D))} {vs : List Nat} {c : Ro → W Ex Bool} {e f : Ro → W Ex D} {ρ : Ro} {xs : List D} {ys : List (Key × D)} (hm : m ρ = W.ret xs) (hl : xs.length ≤ sizeLine) (h : dcN p c e f (wipeR ρ vs) [] xs = W.ret ys) : mDc m vs p c e f ρ = W.ret (true, .dic ys) := by
  show W.bind (m ρ) (fun ds => szd ds (W.bind (dcN p c e f (wipeR ρ vs) [] ds) fun ys => W.ret (true, D.dic ys))) = _
  rw [hm]
  show szd xs _ = _
  unfold szd
  rw [if_pos hl, h]; rfl
theorem are_people_eq (t : Bool) (ps : List Per) (hn : ps ≠ []) (hl : ps.length ≤ sizeLine) (ho : ∀ p ∈ ps, perOk p = true) (nd : (ps.map (·.nm)).Nodup) : sem_are_people [wrapD t (ps.map perD)] = W.ret (false, .bl true) := by
  have hnm : ∀ p ∈ ps, nameOk p.nm = true := fun p hp => by
    have := ho p hp
    unfold perOk at this
    exact (Bool.and_eq_true_iff.mp this).1
  refine run_ret _ _ _ _ [some (false, wrapD t (ps.map perD)), none] ?_
  have e1 := len_eq (m := mVar 0) (ρ := [some (wrapD t (ps.map perD)), none]) rfl (len_wrap t (ps.map perD))
  rw [List.length_map] at e1
  have e2 : mBlt (g1 allD) (mCons (mDe (mLc (mWalk (mVar 0)) [1] (pName 1) mYes (mDe (mCall 1 sem_is_person [] (mCons (mVar 1) mNil))))) mNil) [some (wrapD t (ps.map perD)), none] = W.ret (false, .bl true) := by
    rw [all_eq (ps.map perD) (fun _ => true) (walk_eq (m := mVar 0) rfl (walk_wrap t _)) (by rw [List.length_map]; exact hl) fun d hd => by
      obtain ⟨p, hp, rfl⟩ := List.mem_map.mp hd
      refine ⟨_, rfl, ?_⟩
      have := is_person_eq p (name_size (hnm p hp))
      rw [ho p hp] at this
      exact de_eq (b := false) (call_eq (ds := [perD p]) rfl rfl this)]
    rw [List.all_eq_true.mpr fun _ _ => rfl]
  have hne : ((ps.length : Int) == 0) = false := by
    cases ps with
    | nil => exact absurd rfl hn
    | cons a l => exact beq_eq_false_iff_ne.mpr (by rw [List.length_cons]; omega)
  have e3 := dc_eq (p := pName 1) (c := mYes) (e := mOp gIx (mVar 1) (mC (.int 0))) (f := mC (.bl true)) (vs := [1]) (walk_eq (m := mVar 0) (ρ := [some (wrapD t (ps.map perD)), none]) rfl (walk_wrap t (ps.map perD))) (by rw [List.length_map]; exact hl)
    (dcN_new (fun _ => true) (fun p : Per => Sum.inr p.nm) (fun _ => D.bl true) perD ps [] (by
      rw [List.filter_eq_self.mpr fun _ _ => rfl]
      have : (ps.map fun p : Per => (Sum.inr p.nm : Key)) = (ps.map (·.nm)).map Sum.inr := by rw [List.map_map]; rfl
      rw [List.map_nil, List.nil_append, this]
      exact nd.map _ fun a b hne h => hne (Sum.inr.inj h)) fun p _ => ⟨[(1, perD p)], .str p.nm, rfl, rfl, fun _ => ⟨rfl, rfl, rfl⟩⟩)
  refine (guardB false true (or_eq false false (not_eq true (test_eq true (de_eq (b := false) (call_eq rfl rfl (is_seq_wrap t _))))) fun _ => or_eq false false (test_eq _ (op_eq e1 rfl ?_)) fun _ => not_eq true (test_eq true (de_eq e2))) rfl fun _ => ret_eq (dr_eq (op_eq (len_eq (de_eq e3) rfl) e1 ?_))).trans rfl
  · rw [eq_int]; rw [hne]; rfl
  · rw [eq_int]
    rw [List.nil_append, List.length_map, List.filter_eq_self.mpr fun _ _ => rfl, beq_self_eq_true]; rfl
end FbL
end

section
set_option Elab.async false
set_option linter.all false
set_option maxRecDepth 100000
set_option maxHeartbeats 4000000
namespace FbL
open PySem PySem.Spec PyProof.Rows L2 Fb
/-! ### meetings -/
def metOk (ns : List Str) (m : Met) : Bool := decide (0 ≤ m.day) && (nameOk m.one && nameOk m.other && !(m.one == m.other) && ((ns.any fun y => y == m.one) && (ns.any fun y => y == m.other)))
theorem is_meeting_ok (ns : List Str) (hns : ∀ y ∈ ns, nameOk y = true) (m : Met) (h : metOk ns m = true) : sem_is_meeting [.lst (ns.map D.str), metD m] = W.ret (false, .bl true) := by
  unfold metOk at h
  obtain ⟨h0, h⟩ := Bool.and_eq_true_iff.mp h
  obtain ⟨h1, h2⟩ := Bool.and_eq_true_iff.mp h
  obtain ⟨h1, h3⟩ := Bool.and_eq_true_iff.mp h1
  obtain ⟨ha, hb⟩ := Bool.and_eq_true_iff.mp h1
  obtain ⟨hi, hj⟩ := Bool.and_eq_true_iff.mp h2
  have hne : (m.one == m.other) = false := by simpa using h3
  have ok := fun y hy => name_strOk (hns y hy)
  refine run_ret _ _ _ _ [some (false, .lst (ns.map D.str)), some (false, metD m)] ?_
  have e0 : (mDe (mCall 1 sem_is_number [] (mCons (mOp gIx (mVar 1) (mC (.int 0))) mNil))) [some (.lst (ns.map D.str)), some (metD m)] = W.ret (.bl (decide (0 ≤ m.day))) := rfl
  have e1 : (mDe (mCall 1 sem_is_name [] (mCons (mOp gIx (mVar 1) (mC (.int 1))) mNil))) [some (.lst (ns.map D.str)), some (metD m)] = W.ret (.bl (nameOk m.one)) := de_eq (call_eq (ds := [.str m.one]) rfl rfl (is_name_eq _ (name_size ha)))
  have e2 : (mDe (mCall 1 sem_is_name [] (mCons (mOp gIx (mVar 1) (mC (.int 2))) mNil))) [some (.lst (ns.map D.str)), some (metD m)] = W.ret (.bl (nameOk m.other)) := de_eq (call_eq (ds := [.str m.other]) rfl rfl (is_name_eq _ (name_size hb)))
  rw [h0] at e0
  rw [ha] at e1
  rw [hb] at e2
  refine (guardB false true (or_eq false false rfl fun _ => or_eq false false rfl fun _ => not_eq true (test_eq true e0)) rfl fun _ => guardB false true (or_eq false false (not_eq true (test_eq true e1)) fun _ => or_eq false false (not_eq true (test_eq true e2)) fun _ => test_eq false (op_eq (a := .str m.one) (b := .str m.other) rfl rfl ?_)) rfl fun _ => ret_eq (dr_eq (andV_eq true true (op_eq (a := .str m.one) (b := .lst (ns.map D.str)) rfl rfl ?_) fun _ => op_eq (a := .str m.other) (b := .lst (ns.map D.str)) rfl rfl ?_))).trans rfl
  · rw [eq_str false (name_strOk ha) (name_strOk hb), hne]; rfl
  · rw [in_strs false (name_strOk ha) ok, hi]; rfl
  · rw [in_strs false (name_strOk hb) ok, hj]; rfl
/-! ### plans -/
structure Pl where
  ps : List Per
  ms : List Met
def Pl.names (P : Pl) : List Str := P.ps.map (·.nm)
structure Pl.Ok (P : Pl) : Prop where
  ne : P.ps ≠ []
  lp : P.ps.length ≤ sizeLine
  lm : P.ms.length ≤ sizeLine
  per : ∀ p ∈ P.ps, perOk p = true
  nd : P.names.Nodup
  met : ∀ m ∈ P.ms, metOk P.names m = true
def plF (P : Pl) : List (Str × D) := [("people", .tup (P.ps.map perD)), ("meetings", .tup (P.ms.map metD))]
def plD (P : Pl) : D := .ins "Plan" (plF P)
theorem Pl.Ok.nm {P : Pl} (h : P.Ok) : ∀ y ∈ P.names, nameOk y = true := fun y hy => by
  obtain ⟨p, hp, rfl⟩ := List.mem_map.mp hy
  have := h.per p hp
  unfold perOk at this
  exact (Bool.and_eq_true_iff.mp this).1
theorem known_eq {m : Ro → W Ex (List D)} {vs : List Nat} {i : Nat} {ρ : Ro} (ps : List Per) (hm : m ρ = W.ret (ps.map perD)) (hl : ps.length ≤ sizeLine) (hv : ∀ d, gotD (setR (wipeR ρ vs) [(i, d)])[i]? = W.ret d) : mLc m vs (pName i) mYes (mOp gIx (mVar i) (mC (.int 0))) ρ = W.ret (true, .lst ((ps.map (·.nm)).map D.str)) := by
  refine lc_eq hm (by rw [List.length_map]; exact hl) ?_
  rw [lcN_all (fun d => match ixD d (.int 0) with | some z => z | none => .non) fun d hd => by
    obtain ⟨p, hp, rfl⟩ := List.mem_map.mp hd
    exact ⟨[(i, perD p)], rfl, op_eq (hv _) rfl rfl⟩]
  rw [List.map_map, List.map_map]; rfl
theorem tuple_wrap (t : Bool) (l : List D) : gTuple [wrapD t l] = W.ret (false, .tup l) := by cases t <;> rfl
theorem icons_eq {m : En → WS} {n : IW} {ρ ρ' : En} (h : m ρ = W.ret (.nx, ρ')) (hr : rawAt ρ'[0]? = rawAt ρ[0]?) : mIcons m n ρ = n ρ' := by
  show W.bind (m ρ) _ = _
  rw [h]
  show (if rawAt ρ'[0]? = rawAt ρ[0]? then n ρ' else W.fail) = _
  rw [if_pos hr]
theorem imms_strs : ∀ l : List Str, imms (l.map D.str) = true
  | [] => rfl
  | _ :: l => imms_strs l
theorem noins_pers : ∀ l : List Per, noinss (l.map perD) = true
  | [] => rfl
  | p :: l => by
    have : noins (perD p) = true := by rcases p with ⟨_, _, _, _ | ⟨a, b⟩⟩ <;> rfl
    show (noins (perD p) && noinss (l.map perD)) = true
    rw [this, noins_pers l]; rfl
theorem noins_mets : ∀ l : List Met, noinss (l.map metD) = true
  | [] => rfl
  | p :: l => noins_mets l
theorem noins_wrap (t : Bool) {l : List D} (h : noinss l = true) : noins (wrapD t l) = true := by cases t <;> exact h
theorem runIni_ret {n : Nat} {b : IW} {ds : List D} {fs : List (Str × D)} (h : ∀ x, b (initI n x ds) = W.ret fs) : runIni n b ds = W.ret fs := by
  funext Q E
  refine propext ⟨fun z => ?_, fun z x => ?_⟩
  · have z := z 0
    rw [h] at z
    exact z
  · rw [h]; exact z
theorem set_eq {fz : List Nat} {i : Nat} {m : Ro → W Ex (Bool × D)} {ρ ρ' : En} {r : Bool × D} (h : m (see fz ρ) = W.ret r) (ha : asg fz i r ρ = ρ') : mSet fz i m ρ = W.ret (.nx, ρ') := by
  show W.bind (up ρ (m (see fz ρ))) _ = _
  rw [h, ← ha]; rfl
theorem asg_imm {fz : List Nat} {i : Nat} {r : Bool × D} {ρ : En} (h : (if r.1 then immTop r.2 else imm r.2) = true) : asg fz i r ρ = ρ.set i (some r) := by
  unfold asg; rw [if_pos h]
theorem flds2 {ρ : En} {f g : Str} {m n : Ro → W Ex D} {a b : D} (hne : (f = g) = False) (hm : m (roI (ro ρ)) = W.ret a) (hn : n (roI (ro ρ)) = W.ret b) (ha : noins a = true) (hb : noins b = true) : mFlds [(f, m), (g, n)] ρ = W.ret [(f, a), (g, b)] := by
  funext Q E
  show (W.bind (W.calm (m (roI (ro ρ)))) fun d => if noins d = true ∧ ([] : List (Str × D)).length < 1000 then W.bind (W.calm (n (roI (ro ρ)))) fun d' => if noins d' = true ∧ (putFD f d []).length < 1000 then W.ret (putFD g d' (putFD f d [])) else W.fail else W.fail) Q (fun _ => False) = _
  rw [hm, hn]
  show (if noins a = true ∧ ([] : List (Str × D)).length < 1000 then (if noins b = true ∧ (putFD f a []).length < 1000 then W.ret (putFD g b (putFD f a [])) else W.fail) else W.fail : W Ex (List (Str × D))) Q (fun _ => False) = _
  rw [if_pos ⟨ha, Nat.succ_pos _⟩, if_pos ⟨hb, (by show 1 < 1000; decide)⟩]
  show Q (if f = g then (f, b) :: [] else (f, a) :: [(g, b)]) = Q [(f, a), (g, b)]
  rw [if_neg (by rw [hne]; exact id)]
theorem roI_ok {d : D} (h : noins d = true) {ρ : Ro} {i : Nat} (hi : ρ[i]? = some (some d)) : (roI ρ)[i]? = some (some d) := by
  unfold roI
  rw [List.getElem?_map, hi]
  show some (if noins d = true then some d else none) = _
  rw [if_pos h]
theorem ini_eq (P : Pl) (h : P.Ok) (t u : Bool) : sem_Plan___init__ [wrapD t (P.ps.map perD), wrapD u (P.ms.map metD)] = W.ret (plF P) := by
  refine runIni_ret fun x => ?_
  have e1 : (mIf (mNot (mTest (mDe (mCall 1 sem_are_people [] (mCons (mVar 1) mNil))))) mNo mSkip) (initI 6 x [wrapD t (P.ps.map perD), wrapD u (P.ms.map metD)]) = W.ret (.nx, initI 6 x [wrapD t (P.ps.map perD), wrapD u (P.ms.map metD)]) :=
    if_eq false (not_eq true (test_eq true (de_eq (b := false) (call_eq (ds := [wrapD t (P.ps.map perD)]) rfl rfl (are_people_eq t P.ps h.ne h.lp h.per h.nd)))))
  have e2 : mSet [1] 3 (mLc (mWalk (mVar 1)) [4] (pName 4) mYes (mOp gIx (mVar 4) (mC (.int 0)))) (initI 6 x [wrapD t (P.ps.map perD), wrapD u (P.ms.map metD)]) = W.ret (.nx, [some (false, .raw x), some (false, wrapD t (P.ps.map perD)), some (false, wrapD u (P.ms.map metD)), some (true, .lst (P.names.map D.str)), none, none]) :=
    set_eq (known_eq P.ps (walk_eq (m := mVar 1) rfl (walk_wrap t _)) h.lp fun d => rfl) (asg_imm (imms_strs _))
  have e3 : (mIf (mOr (mNot (mTest (mDe (mCall 1 sem_is_sequence [] (mCons (mVar 2) mNil))))) (mNot (mTest (mDe (mBlt (g1 allD) (mCons (mDe (mLc (mWalk (mVar 2)) [5] (pName 5) mYes (mDe (mCall 2 sem_is_meeting [] (mCons (mVar 3) (mCons (mVar 5) mNil)))))) mNil)))))) mNo mSkip) [some (false, .raw x), some (false, wrapD t (P.ps.map perD)), some (false, wrapD u (P.ms.map metD)), some (true, .lst (P.names.map D.str)), none, none] = W.ret (.nx, [some (false, .raw x), some (false, wrapD t (P.ps.map perD)), some (false, wrapD u (P.ms.map metD)), some (true, .lst (P.names.map D.str)), none, none]) := by
    refine if_eq false (or_eq false false (not_eq true (test_eq true (de_eq (b := false) (call_eq (ds := [wrapD u (P.ms.map metD)]) rfl rfl (is_seq_wrap u _))))) fun _ => not_eq true (test_eq true (de_eq (b := false) ?_)))
    rw [all_eq (P.ms.map metD) (fun _ => true) (walk_eq (m := mVar 2) (d := wrapD u (P.ms.map metD)) rfl (walk_wrap u _)) (by rw [List.length_map]; exact h.lm) fun d hd => by
      obtain ⟨m, hm, rfl⟩ := List.mem_map.mp hd
      exact ⟨_, rfl, de_eq (b := false) (call_eq (ds := [.lst (P.names.map D.str), metD m]) rfl rfl (is_meeting_ok P.names h.nm m (h.met m hm)))⟩]
    rw [List.all_eq_true.mpr fun _ _ => rfl]
  refine (icons_eq e1 rfl).trans ((icons_eq e2 rfl).trans ((icons_eq e3 rfl).trans (flds2 (eq_false (by decide)) ?_ ?_ (noins_wrap true (noins_pers _)) (noins_wrap true (noins_mets _)))))
  · refine de_eq (b := false) (blt_eq (ds := [wrapD t (P.ps.map perD)]) (cons_eq (d := wrapD t (P.ps.map perD)) ?_ rfl) (tuple_wrap t _))
    show gotD (roI _)[1]? = _
    rw [roI_ok (noins_wrap t (noins_pers P.ps)) rfl]; rfl
  · refine de_eq (b := false) (blt_eq (ds := [wrapD u (P.ms.map metD)]) (cons_eq (d := wrapD u (P.ms.map metD)) ?_ rfl) (tuple_wrap u _))
    show gotD (roI _)[2]? = _
    rw [roI_ok (noins_wrap u (noins_mets P.ms)) rfl]; rfl
theorem make_eq (P : Pl) (h : P.Ok) (t u : Bool) {a : Ro → W Ex (List D)} {ρ : Ro} (ha : a ρ = W.ret [wrapD t (P.ps.map perD), wrapD u (P.ms.map metD)]) : mMake "Plan" 3 sem_Plan___init__ [] a ρ = W.ret (false, plD P) := by
  show (W.bind (a ρ) fun ds => if (ds ++ []).length + 1 = 3 then W.bind (sem_Plan___init__ (ds ++ [])) fun fs => W.ret (false, D.ins "Plan" fs) else W.fail) = _
  rw [ha]
  show (W.bind (sem_Plan___init__ [wrapD t (P.ps.map perD), wrapD u (P.ms.map metD)]) fun fs => W.ret (false, D.ins "Plan" fs)) = _
  rw [ini_eq P h]; rfl
theorem names_eq (P : Pl) (h : P.ps.length ≤ sizeLine) : sem_Plan_names [plD P] = W.ret (false, .tup (P.names.map D.str)) := by
  refine run_ret _ _ _ _ [some (false, plD P), none] (ret_eq (blt_eq (ds := [.lst (P.names.map D.str)]) (cons_eq (de_eq (b := true) (known_eq P.ps rfl h fun d => rfl)) rfl) rfl))
theorem prop_names (P : Pl) (h : P.ps.length ≤ sizeLine) {m : Ro → W Ex D} {ρ : Ro} (hm : m ρ = W.ret (plD P)) : mProp "Plan" sem_Plan_names m ρ = W.ret (false, .tup (P.names.map D.str)) := by
  show (W.bind (m ρ) fun d => W.got (asIns "Plan" d) fun _ => W.calm (sem_Plan_names [d])) = _
  rw [hm]
  show (W.calm (sem_Plan_names [plD P])) = _
  rw [names_eq P h]; rfl
end FbL
end

section
set_option Elab.async false
set_option linter.all false
set_option maxRecDepth 100000
set_option maxHeartbeats 4000000
namespace FbL
open PySem PySem.Spec PyProof.Rows L2 Fb
def optD : Option Int → D
  | none => .non
  | some i => .int i
theorem imm_opt (o : Option Int) : imm (optD o) = true := by cases o <;> rfl
def minM (day : Int) : Option Int → Option Int
  | none => some day
  | some y => some (if y < day then y else day)
def passM (g : Option Int) (w day : Int) (t : Option Int) : Option Int := match g with
  | none => t
  | some x => if day < x + w then t else minM day t
theorem passed_eq (g : Option Int) (w day : Int) (t : Option Int) : sem_passed [optD g, .int w, .int day, optD t] = W.ret (false, optD (passM g w day t)) := by
  refine run_ret _ _ _ _ [some (false, optD g), some (false, .int w), some (false, .int day), some (false, optD t)] ?_
  rcases g with _ | x
  · exact (seq_rt (ρ' := _) (r := (false, optD t)) ((if_eq true rfl).trans rfl)).trans rfl
  · have c : (mOr (mTest (mOp (gIs false) (mVar 0) (mC .non))) (mTest (mOp gGt (mDe (mOpR gAdd (mVar 0) (mVar 1))) (mVar 2)))) [some (.int x), some (.int w), some (.int day), some (optD t)] = W.ret (decide (day < x + w)) := or_eq false _ rfl fun _ => rfl
    by_cases h : day < x + w
    · rw [decide_eq_true h] at c
      have hp : passM (some x) w day t = t := if_pos h
      rw [hp]
      exact (seq_rt (ρ' := _) (r := (false, optD t)) ((if_eq true c).trans rfl)).trans rfl
    · rw [decide_eq_false h] at c
      have hp : passM (some x) w day t = minM day t := if_neg h
      rw [hp]
      refine (seq_nx (ρ' := _) ((if_eq false c).trans rfl)).trans ?_
      rcases t with _ | y
      · rfl
      · rfl
/-! ### dicts of days -/
def dayD (ns : List Str) (f : Str → Option Int) : List (Key × D) := ns.map fun n => (Sum.inr n, optD (f n))
def upd1 (f : Str → Option Int) (n : Str) (v : Option Int) : Str → Option Int := fun m => if m = n then v else f m
theorem find_key {ns : List Str} {n : Str} (h : n ∈ ns) : (ns.find? fun m => decide ((Sum.inr m : Key) = Sum.inr n)) = some n := by
  induction ns with
  | nil => cases h
  | cons a l ih =>
    rw [List.find?_cons]
    by_cases e : a = n
    · subst e; rw [decide_eq_true rfl]
    · rw [decide_eq_false fun z => e (Sum.inr.inj z)]
      exact ih ((List.mem_cons.mp h).resolve_left fun z => e z.symm)
theorem look_day {ns : List Str} {f : Str → Option Int} {n : Str} (h : n ∈ ns) : lookK (dayD ns f) (.inr n) = some (optD (f n)) := by
  unfold dayD
  rw [lookK_map (fun n => Sum.inr n) (fun n => optD (f n)), find_key h]; rfl
theorem put_day {ns : List Str} {f : Str → Option Int} {n : Str} {v : Option Int} (h : n ∈ ns) : putD (dayD ns f) (.inr n) (optD v) = dayD ns (upd1 f n v) := by
  have ha : ((dayD ns f).any fun kv => decide (kv.1 = Sum.inr n)) = true := List.any_eq_true.mpr ⟨(Sum.inr n, optD (f n)), List.mem_map.mpr ⟨n, h, rfl⟩, decide_eq_true rfl⟩
  unfold putD
  rw [if_pos ha]
  unfold dayD
  rw [List.map_map]
  refine List.map_congr_left fun m _ => ?_
  show (if (Sum.inr m : Key) = Sum.inr n then ((Sum.inr m : Key), optD v) else (Sum.inr m, optD (f m))) = (Sum.inr m, optD (upd1 f n v m))
  unfold upd1
  by_cases e : m = n
  · rw [if_pos e, if_pos (by rw [e])]
  · rw [if_neg e, if_neg fun z => e (Sum.inr.inj z)]
theorem immK_day (ns : List Str) (f : Str → Option Int) : immK (dayD ns f) = true := by
  induction ns with
  | nil => rfl
  | cons a l ih =>
    show (imm (optD (f a)) && immK (dayD l f)) = true
    rw [imm_opt, ih]; rfl
/-! ### the sorted rows -/
def leM (a b : Met) : Bool := leD (metD a) (metD b)
theorem sorted_mets (t : Bool) (ms : List Met) (hl : ms.length ≤ sizeLine) : gSorted [wrapD t (ms.map metD)] = W.ret (true, .lst ((ms.mergeSort leM).map metD)) := by
  have hs : sortOk (ms.map metD) = true := by
    have h1 : ∀ (q : D → Bool), (∀ m, q (metD m) = true) → (ms.map metD).all q = true := fun q hq => by
      rw [List.all_map]; exact List.all_eq_true.mpr fun m _ => hq m
    unfold sortOk
    exact Bool.and_eq_true_iff.mpr ⟨Bool.and_eq_true_iff.mpr ⟨Bool.and_eq_true_iff.mpr ⟨h1 _ fun m => rfl, h1 _ fun m => h1 _ fun m' => rfl⟩, Bool.or_eq_true_iff.mpr (.inl (h1 _ fun m => rfl))⟩, decide_eq_true (by rw [List.length_map]; exact hl)⟩
  have hm : (ms.map metD).mergeSort leD = (ms.mergeSort leM).map metD := (List.map_mergeSort (r := leM) (s := leD) (f := metD) (l := ms) fun a _ b _ => rfl).symm
  cases t
  · show (if sortOk (ms.map metD) = true then W.ret (true, D.lst ((ms.map metD).mergeSort leD)) else W.fail) = _
    rw [if_pos hs, hm]
  · show (if sortOk (ms.map metD) = true then W.ret (true, D.lst ((ms.map metD).mergeSort leD)) else W.fail) = _
    rw [if_pos hs, hm]
def stepM (wt : Str → Int) (f : Str → Option Int) (m : Met) : Str → Option Int :=
  upd1 (upd1 f m.other (passM (f m.one) (wt m.one) m.day (f m.other))) m.one (passM (f m.other) (wt m.other) m.day (f m.one))
end FbL
end

section
set_option Elab.async false
set_option linter.all false
set_option maxRecDepth 100000
set_option maxHeartbeats 4000000
namespace FbL
open PySem PySem.Spec PyProof.Rows L2 Fb
theorem dput_eq {fz : List Nat} {i : Nat} {mk m : Ro → W Ex D} {ρ : En} {kvs : List (Key × D)} {d k : D} {ky : Key} (h0 : ρ[i]? = some (some (true, .dic kvs))) (hm : m (see fz ρ) = W.ret d) (hk : mk (ro ρ) = W.ret k) (hy : keyOf k = some ky) (hi : imm d = true) (hl : kvs.length < sizeLine) :
    mDput fz i mk m ρ = W.ret (.nx, ρ.set i (some (true, .dic (putD kvs ky d)))) := by
  show (W.got (slotK ρ[i]?) fun kvs => W.bind (up ρ (m (see fz ρ))) fun d => W.bind (up ρ (mk (ro ρ))) fun k => W.got (keyOf k) fun ky => W.got (tak fz i d ρ) fun ρ' => if kvs.length < sizeLine then W.ret (Fl.nx, ρ'.set i (some (true, D.dic (putD kvs ky d)))) else W.fail) = _
  rw [h0]
  show (W.bind (up ρ (m (see fz ρ))) fun d => W.bind (up ρ (mk (ro ρ))) fun k => W.got (keyOf k) fun ky => W.got (tak fz i d ρ) fun ρ' => if kvs.length < sizeLine then W.ret (Fl.nx, ρ'.set i (some (true, D.dic (putD kvs ky d)))) else W.fail) = _
  rw [hm, hk]
  show (W.got (keyOf k) fun ky => W.got (tak fz i d ρ) fun ρ' => if kvs.length < sizeLine then W.ret (Fl.nx, ρ'.set i (some (true, D.dic (putD kvs ky d)))) else W.fail) = _
  rw [hy]
  show (W.got (if imm d = true then some ρ else if i ∈ fz then none else some (frz fz ρ)) fun ρ' => if kvs.length < sizeLine then W.ret (Fl.nx, ρ'.set i (some (true, D.dic (putD kvs ky d)))) else W.fail) = _
  rw [if_pos hi]
  show (if kvs.length < sizeLine then W.ret (Fl.nx, ρ.set i (some (true, D.dic (putD kvs ky d)))) else W.fail) = _
  rw [if_pos hl]
theorem tup_eq {m : Ro → W Ex (List D)} {ρ : Ro} {ds : List D} (h : m ρ = W.ret ds) (hl : ds.length ≤ sizeLine) : mTup m ρ = W.ret (.tup ds) := by
  show W.bind (m ρ) (fun ds => szd ds (W.ret (D.tup ds))) = _
  rw [h]
  show (if ds.length ≤ sizeLine then W.ret (D.tup ds) else W.fail) = _
  rw [if_pos hl]
theorem ix_day {ns : List Str} {f : Str → Option Int} {n : Str} (h : n ∈ ns) : gIx (.dic (dayD ns f)) (.str n) = W.ret (optD (f n)) := by
  unfold gIx
  show (match lookK (dayD ns f) (.inr n) with | some d => W.ret d | none => W.fail) = _
  rw [look_day h]
theorem ix_look {ks : List (Key × D)} {n : Str} {d : D} (h : lookK ks (.inr n) = some d) : gIx (.dic ks) (.str n) = W.ret d := by
  unfold gIx
  show (match lookK ks (.inr n) with | some d => W.ret d | none => W.fail) = _
  rw [h]
theorem small {n : Nat} (h : n ≤ 1000) : n ≤ sizeLine := Nat.le_trans h sizeLine_ge
/-- the slots of days_by -/
def dbE (A F : D) (ns : List Str) (wk : List (Key × D)) (f : Str → Option Int) (a b c e : Option (Bool × D)) : En := [some (false, A), some (false, F), some (true, .dic (dayD ns f)), some (true, .dic wk), a, b, c, e, none, none]
def dbBody : En → WS := (mSeq (mSet [2, 5, 6] 7 (mDr (mTup (mCons (mOp gIx (mVar 2) (mVar 5)) (mCons (mOp gIx (mVar 2) (mVar 6)) mNil))))) (mSeq (mDput [4, 7, 3, 5] 2 (mVar 6) (mDe (mCall 4 sem_passed [] (mCons (mOp gIx (mVar 7) (mC (.int 0))) (mCons (mOp gIx (mVar 3) (mVar 5)) (mCons (mVar 4) (mCons (mOp gIx (mVar 7) (mC (.int 1))) mNil))))))) (mDput [4, 7, 3, 6] 2 (mVar 5) (mDe (mCall 4 sem_passed [] (mCons (mOp gIx (mVar 7) (mC (.int 1))) (mCons (mOp gIx (mVar 3) (mVar 6)) (mCons (mVar 4) (mCons (mOp gIx (mVar 7) (mC (.int 0))) mNil)))))))))
theorem dbBody_eq {A F : D} {ns : List Str} {wk : List (Key × D)} {wt : Str → Int} (hl : ns.length < sizeLine) (hw : ∀ n ∈ ns, lookK wk (.inr n) = some (.int (wt n))) (f : Str → Option Int) (m : Met) (h1 : m.one ∈ ns) (h2 : m.other ∈ ns) (a b c e : Option (Bool × D)) :
    dbBody (dbE A F ns wk f (some (false, .int m.day)) (some (false, .str m.one)) (some (false, .str m.other)) e) = W.ret (.nx, dbE A F ns wk (stepM wt f m) (some (false, .int m.day)) (some (false, .str m.one)) (some (false, .str m.other)) (some (false, .tup [optD (f m.one), optD (f m.other)]))) := by
  have hi : imm (.tup [optD (f m.one), optD (f m.other)]) = true := by
    show (imm (optD (f m.one)) && (imm (optD (f m.other)) && true)) = true
    rw [imm_opt, imm_opt]; rfl
  have s1 : mSet [2, 5, 6] 7 (mDr (mTup (mCons (mOp gIx (mVar 2) (mVar 5)) (mCons (mOp gIx (mVar 2) (mVar 6)) mNil)))) (dbE A F ns wk f (some (false, .int m.day)) (some (false, .str m.one)) (some (false, .str m.other)) e) = W.ret (.nx, dbE A F ns wk f (some (false, .int m.day)) (some (false, .str m.one)) (some (false, .str m.other)) (some (false, .tup [optD (f m.one), optD (f m.other)]))) :=
    set_eq (dr_eq (tup_eq (cons_eq (op_eq (a := .dic (dayD ns f)) (b := .str m.one) rfl rfl (ix_day h1)) (cons_eq (op_eq (a := .dic (dayD ns f)) (b := .str m.other) rfl rfl (ix_day h2)) rfl)) (small (by show 2 ≤ 1000; decide)))) (asg_imm hi)
  refine (seq_nx s1).trans ?_
  have s2 : mDput [4, 7, 3, 5] 2 (mVar 6) (mDe (mCall 4 sem_passed [] (mCons (mOp gIx (mVar 7) (mC (.int 0))) (mCons (mOp gIx (mVar 3) (mVar 5)) (mCons (mVar 4) (mCons (mOp gIx (mVar 7) (mC (.int 1))) mNil)))))) (dbE A F ns wk f (some (false, .int m.day)) (some (false, .str m.one)) (some (false, .str m.other)) (some (false, .tup [optD (f m.one), optD (f m.other)]))) = W.ret (.nx, dbE A F ns wk (upd1 f m.other (passM (f m.one) (wt m.one) m.day (f m.other))) (some (false, .int m.day)) (some (false, .str m.one)) (some (false, .str m.other)) (some (false, .tup [optD (f m.one), optD (f m.other)]))) := by
    refine Eq.trans (dput_eq (kvs := dayD ns f) (d := optD (passM (f m.one) (wt m.one) m.day (f m.other))) (k := .str m.other) (ky := .inr m.other) rfl (de_eq (call_eq (ds := [optD (f m.one), .int (wt m.one), .int m.day, optD (f m.other)]) (cons_eq rfl (cons_eq (op_eq (a := .dic wk) (b := .str m.one) rfl rfl (ix_look (hw _ h1))) (cons_eq rfl (cons_eq rfl rfl)))) rfl (passed_eq _ _ _ _))) rfl rfl (imm_opt _) (by unfold dayD; rw [List.length_map]; exact hl)) ?_
    rw [put_day h2]
    rfl
  refine (seq_nx s2).trans ?_
  refine Eq.trans (dput_eq (kvs := dayD ns (upd1 f m.other (passM (f m.one) (wt m.one) m.day (f m.other)))) (d := optD (passM (f m.other) (wt m.other) m.day (f m.one))) (k := .str m.one) (ky := .inr m.one) rfl (de_eq (call_eq (ds := [optD (f m.other), .int (wt m.other), .int m.day, optD (f m.one)]) (cons_eq rfl (cons_eq (op_eq (a := .dic wk) (b := .str m.other) rfl rfl (ix_look (hw _ h2))) (cons_eq rfl (cons_eq rfl rfl)))) rfl (passed_eq _ _ _ _))) rfl rfl (imm_opt _) (by unfold dayD; rw [List.length_map]; exact hl)) ?_
  rw [put_day h1]
  rfl
theorem dbLoop {A F : D} {ns : List Str} {wk : List (Key × D)} {wt : Str → Int} (hl : ns.length < sizeLine) (hw : ∀ n ∈ ns, lookK wk (.inr n) = some (.int (wt n))) : ∀ (ms : List Met) (f : Str → Option Int) (a b c e : Option (Bool × D)), (∀ m ∈ ms, m.one ∈ ns ∧ m.other ∈ ns) →
    ∃ a' b' c' e', forN (pTup 3 (pCons (pName 4) (pCons (pName 5) (pCons (pName 6) pNil)))) dbBody (ms.map metD) (dbE A F ns wk f a b c e) = W.ret (.nx, dbE A F ns wk (ms.foldl (stepM wt) f) a' b' c' e')
  | [], f, a, b, c, e, _ => ⟨a, b, c, e, rfl⟩
  | m :: ms, f, a, b, c, e, h => by
    obtain ⟨h1, h2⟩ := h m List.mem_cons_self
    obtain ⟨a', b', c', e', ih⟩ := dbLoop (A := A) (F := F) hl hw ms (stepM wt f m) (some (false, .int m.day)) (some (false, .str m.one)) (some (false, .str m.other)) (some (false, .tup [optD (f m.one), optD (f m.other)])) fun z hz => h z (List.mem_cons_of_mem _ hz)
    refine ⟨a', b', c', e', ?_⟩
    rw [List.map_cons]
    show (W.bind (dbBody (dbE A F ns wk f (some (false, .int m.day)) (some (false, .str m.one)) (some (false, .str m.other)) e)) _) = _
    rw [dbBody_eq hl hw f m h1 h2 a b c e]
    exact ih
end FbL
end

section
set_option Elab.async false
set_option linter.all false
set_option maxRecDepth 100000
set_option maxHeartbeats 4000000
namespace FbL
open PySem PySem.Spec PyProof.Rows L2 Fb
def waitD (ps : List Per) : List (Key × D) := ps.map fun p => (Sum.inr p.nm, D.int p.w)
def perOf (ps : List Per) (n : Str) : Option Per := ps.find? fun p => decide (p.nm = n)
def waitOf (ps : List Per) (n : Str) : Int := ((perOf ps n).map (·.w)).getD 0
theorem perOf_mem {ps : List Per} {n : Str} (h : n ∈ ps.map (·.nm)) : ∃ p, perOf ps n = some p ∧ p ∈ ps ∧ p.nm = n := by
  obtain ⟨q, hq, e⟩ := List.mem_map.mp h
  rcases e1 : perOf ps n with _ | p
  · unfold perOf at e1
    have := List.find?_eq_none.mp e1 q hq
    exact absurd (decide_eq_true e) this
  · exact ⟨p, rfl, List.mem_of_find?_eq_some e1, of_decide_eq_true (List.find?_some (p := fun p : Per => decide (p.nm = n)) e1)⟩
theorem find_inr {α : Type} (f : α → Str) (ps : List α) (n : Str) : (ps.find? fun p => decide ((Sum.inr (f p) : Key) = Sum.inr n)) = ps.find? fun p => decide (f p = n) := by
  congr 1
  funext p
  exact decide_eq_decide.mpr ⟨fun h => Sum.inr.inj h, fun h => congrArg _ h⟩
theorem look_wait {ps : List Per} {n : Str} (h : n ∈ ps.map (·.nm)) : lookK (waitD ps) (.inr n) = some (.int (waitOf ps n)) := by
  obtain ⟨p, e, _, _⟩ := perOf_mem h
  unfold waitD
  rw [lookK_map (fun p : Per => Sum.inr p.nm) (fun p => D.int p.w), find_inr (fun p : Per => p.nm)]
  unfold waitOf
  unfold perOf at e ⊢
  rw [e]; rfl
theorem immK_wait (ps : List Per) : immK (waitD ps) = true := by
  induction ps with
  | nil => rfl
  | cons a l ih => exact ih
theorem inrs_nodup {l : List Str} (h : l.Nodup) : (l.map fun n => (Sum.inr n : Key)).Nodup := h.map _ fun a b hne z => hne (Sum.inr.inj z)
theorem for_eq {fz : List Nat} {m : Ro → W Ex (List D)} {p : D → Option (List (Nat × D))} {b : En → WS} {ρ : En} {ds : List D} (h : m (see fz ρ) = W.ret ds) : mFor fz m p b ρ = forN p b ds (frz fz ρ) := by
  show W.bind (up ρ (m (see fz ρ))) _ = _
  rw [h]; rfl
def daysM (P : Pl) (f : Str → Option Int) : Str → Option Int := (P.ms.mergeSort leM).foldl (stepM (waitOf P.ps)) f
theorem days_by_eq (P : Pl) (h : P.Ok) (hl : P.ps.length < sizeLine) (fk : List (Key × D)) (f : Str → Option Int) (hf : ∀ n, (lookK fk (.inr n)).getD .non = optD (f n)) : sem_days_by [plD P, .dic fk] = W.ret (true, .dic (dayD P.names (daysM P f))) := by
  have hn : P.names.length < sizeLine := by unfold Pl.names; rw [List.length_map]; exact hl
  have e1 : mSet [1, 0] 2 (mDc (mWalk (mDe (mProp "Plan" sem_Plan_names (mVar 0)))) [8] (pName 8) mYes (mVar 8) (mGet1 (mVar 1) (mVar 8))) [some (false, plD P), some (false, .dic fk), none, none, none, none, none, none, none, none] = W.ret (.nx, [some (false, plD P), some (false, .dic fk), some (true, .dic (dayD P.names f)), none, none, none, none, none, none, none]) := by
    refine set_eq (dc_eq (walk_eq (d := .tup (P.names.map D.str)) (de_eq (b := false) (prop_names P h.lp rfl)) rfl) (by rw [List.length_map]; exact Nat.le_of_lt hn) (dcN_new (fun _ => true) (fun n : Str => Sum.inr n) (fun n => optD (f n)) D.str P.names [] (by
      rw [List.filter_eq_self.mpr fun _ _ => rfl]
      exact inrs_nodup h.nd) fun n _ => ⟨[(8, .str n)], .str n, rfl, rfl, fun _ => ⟨rfl, rfl, ?_⟩⟩)) ?_
    · show W.ret ((lookK fk (.inr n)).getD .non) = _
      rw [hf]
    · rw [List.nil_append, List.filter_eq_self.mpr fun _ _ => rfl]
      exact asg_imm (immK_day _ _)
  have e2 : mSet [0] 3 (mDc (mWalk (mFld "Plan" "people" (mVar 0))) [9] (pName 9) mYes (mOp gIx (mVar 9) (mC (.int 0))) (mOp gIx (mVar 9) (mC (.int 1)))) [some (false, plD P), some (false, .dic fk), some (true, .dic (dayD P.names f)), none, none, none, none, none, none, none] = W.ret (.nx, dbE (plD P) (.dic fk) P.names (waitD P.ps) f none none none none) := by
    refine set_eq (dc_eq (walk_eq (d := .tup (P.ps.map perD)) rfl rfl) (by rw [List.length_map]; exact Nat.le_of_lt hl) (dcN_new (fun _ => true) (fun p : Per => Sum.inr p.nm) (fun p => D.int p.w) perD P.ps [] (by
      rw [List.filter_eq_self.mpr fun _ _ => rfl]
      have := inrs_nodup h.nd
      unfold Pl.names at this
      rw [List.map_map] at this
      exact this) fun p _ => ⟨[(9, perD p)], .str p.nm, rfl, rfl, fun _ => ⟨rfl, rfl, rfl⟩⟩)) ?_
    rw [List.nil_append, List.filter_eq_self.mpr fun _ _ => rfl]
    exact asg_imm (immK_wait _)
  have hm : ∀ m ∈ P.ms.mergeSort leM, m.one ∈ P.names ∧ m.other ∈ P.names := fun m hm => by
    have := h.met m (List.mem_mergeSort.mp hm)
    unfold metOk at this
    have z := (Bool.and_eq_true_iff.mp (Bool.and_eq_true_iff.mp this).2).2
    obtain ⟨z1, z2⟩ := Bool.and_eq_true_iff.mp z
    obtain ⟨y, hy, e⟩ := List.any_eq_true.mp z1
    obtain ⟨y', hy', e'⟩ := List.any_eq_true.mp z2
    exact ⟨eq_of_beq e ▸ hy, eq_of_beq e' ▸ hy'⟩
  obtain ⟨a, b, c, e, e3⟩ := dbLoop (A := plD P) (F := .dic fk) hn (fun n hn => look_wait (ps := P.ps) hn) (P.ms.mergeSort leM) f none none none none hm
  refine run_ret _ _ _ _ (dbE (plD P) (.dic fk) P.names (waitD P.ps) (daysM P f) a b c e) ?_
  refine (seq_nx e1).trans ((seq_nx e2).trans ((seq_nx (Eq.trans (for_eq (ds := (P.ms.mergeSort leM).map metD) (walk_eq (d := .lst ((P.ms.mergeSort leM).map metD)) (de_eq (b := true) (blt_eq (ds := [.tup (P.ms.map metD)]) rfl (sorted_mets true P.ms h.lm))) rfl)) e3)).trans ?_))
  rfl
end FbL
end

section
set_option Elab.async false
set_option linter.all false
set_option maxRecDepth 100000
set_option maxHeartbeats 4000000
namespace FbL
open PySem PySem.Spec PyProof.Rows L2 Fb
def spanD (ps : List Per) : List (Key × D) := (ps.filter fun p => p.sp.isSome).map fun p => (Sum.inr p.nm, spD p.sp)
theorem isN_sp (s : Option (Int × Int)) : isN (spD s) = !s.isSome := by rcases s with _ | ⟨a, b⟩ <;> rfl
theorem spans_eq (P : Pl) (h : P.Ok) : sem_spans_of [plD P] = W.ret (true, .dic (spanD P.ps)) := by
  refine run_ret _ _ _ _ [some (false, plD P), none] (ret_eq (dc_eq (walk_eq (d := .tup (P.ps.map perD)) rfl rfl) (by rw [List.length_map]; exact h.lp) ((dcN_new (fun p : Per => p.sp.isSome) (fun p : Per => Sum.inr p.nm) (fun p => spD p.sp) perD P.ps [] ?_ fun p _ => ⟨[(1, perD p)], .str p.nm, rfl, ?_, fun _ => ⟨rfl, rfl, rfl⟩⟩).trans rfl)))
  · have := inrs_nodup h.nd
    unfold Pl.names at this
    rw [List.map_map] at this
    exact List.Nodup.sublist (List.Sublist.map _ List.filter_sublist) this
  · show W.ret (isN (spD p.sp) != true) = _
    rw [isN_sp]
    cases p.sp.isSome <;> rfl
theorem immK_span (ps : List Per) : immK (spanD ps) = true := by
  unfold spanD
  induction ps.filter fun p => p.sp.isSome with
  | nil => rfl
  | cons a l ih =>
    show (imm (spD a.sp) && immK (l.map fun p => (Sum.inr p.nm, spD p.sp))) = true
    rw [ih]
    rcases a.sp with _ | ⟨x, y⟩ <;> rfl
theorem look_span {ps : List Per} (nd : (ps.map (·.nm)).Nodup) {p : Per} (hp : p ∈ ps) {lo hi : Int} (hs : p.sp = some (lo, hi)) : lookK (spanD ps) (.inr p.nm) = some (.tup [.int lo, .int hi]) := by
  unfold spanD
  rw [lookK_map (fun p : Per => Sum.inr p.nm) (fun p => spD p.sp), find_inr (fun p : Per => p.nm)]
  induction ps with
  | nil => cases hp
  | cons a l ih =>
    rw [List.map_cons, List.nodup_cons] at nd
    rcases List.mem_cons.mp hp with e | hm
    · subst e
      rw [List.filter_cons_of_pos (by rw [hs]; rfl), List.find?_cons, decide_eq_true rfl]
      show some (spD p.sp) = _
      rw [hs]; rfl
    · have hne : a.nm ≠ p.nm := fun e => nd.1 (e ▸ List.mem_map_of_mem hm)
      rw [List.filter_cons]
      split
      · rw [List.find?_cons, decide_eq_false hne]
        exact ih nd.2 hm
      · exact ih nd.2 hm
def fstD (w : Str × Int) : D := .tup [.str w.1, .int w.2]
def fstOk (ps : List Per) (w : Str × Int) : Prop := ∃ p ∈ ps, p.nm = w.1 ∧ ∃ lo hi, p.sp = some (lo, hi) ∧ 0 ≤ lo ∧ lo ≤ w.2 ∧ w.2 ≤ hi
theorem in_dic (neg : Bool) (ks : List (Key × D)) (x : Str) : gIn neg (.str x) (.dic ks) = W.ret (.bl ((lookK ks (.inr x)).isSome != neg)) := rfl
theorem first_eq {ps : List Per} (nd : (ps.map (·.nm)).Nodup) {w : Str × Int} (h : fstOk ps w) : sem_is_first_one [.dic (spanD ps), fstD w] = W.ret (false, .bl true) := by
  obtain ⟨p, hp, en, lo, hi, hs, h0, h1, h2⟩ := h
  have lk := look_span nd hp hs
  rw [en] at lk
  have gx : gIx (.dic (spanD ps)) (.str w.1) = W.ret (.tup [.int lo, .int hi]) := ix_look lk
  refine run_ret _ _ _ _ [some (false, .dic (spanD ps)), some (false, fstD w)] ?_
  refine (guardB false true (or_eq false false rfl fun _ => or_eq false false rfl fun _ => rfl) rfl fun _ => guardB false true (or_eq false false (test_eq false (op_eq (a := .str w.1) (b := .dic (spanD ps)) rfl rfl ?_)) fun _ => not_eq true (test_eq true (de_eq (b := false) (call_eq (ds := [.int w.2]) rfl rfl ?_)))) rfl fun _ => ret_eq (dr_eq ?_)).trans rfl
  · rw [in_dic, lk]; rfl
  · rw [is_number_int, decide_eq_true (Int.le_trans h0 h1)]
  · have e1 : mOp gIx (mOp gIx (mVar 0) (mOp gIx (mVar 1) (mC (.int 0)))) (mC (.int 0)) [some (.dic (spanD ps)), some (fstD w)] = W.ret (.int lo) := op_eq (op_eq (a := .dic (spanD ps)) (b := .str w.1) rfl rfl gx) rfl rfl
    have e2 : mOp gIx (mOp gIx (mVar 0) (mOp gIx (mVar 1) (mC (.int 0)))) (mC (.int 1)) [some (.dic (spanD ps)), some (fstD w)] = W.ret (.int hi) := op_eq (op_eq (a := .dic (spanD ps)) (b := .str w.1) rfl rfl gx) rfl rfl
    show (W.bind (mOp gIx (mOp gIx (mVar 0) (mOp gIx (mVar 1) (mC (.int 0)))) (mC (.int 0)) [some (.dic (spanD ps)), some (fstD w)]) fun a => W.bind (W.ret (.int w.2)) fun b => W.bind (W.calm (gLe a b)) fun t => W.bind (asB t) fun k => if k = true then W.bind (mOp gIx (mOp gIx (mVar 0) (mOp gIx (mVar 1) (mC (.int 0)))) (mC (.int 1)) [some (.dic (spanD ps)), some (fstD w)]) fun c => W.calm (gLe b c) else W.ret (D.bl false)) = _
    rw [e1, e2]
    show (if decide (lo ≤ w.2) = true then W.ret (D.bl (decide (w.2 ≤ hi))) else W.ret (D.bl false)) = _
    rw [decide_eq_true h1, decide_eq_true h2]; rfl
end FbL
end

section
set_option Elab.async false
set_option linter.all false
set_option maxRecDepth 100000
set_option maxHeartbeats 4000000
namespace FbL
open PySem PySem.Spec PyProof.Rows L2 Fb
def nwE (A B : D) (sk fk : List (Key × D)) (a b : Option (Bool × D)) : En := [some (false, A), some (false, B), some (true, .dic sk), some (true, .dic fk), a, b]
def nwBody : En → WS := (mSeq (mIf (mOr (mNot (mTest (mDe (mCall 2 sem_is_first_one [] (mCons (mVar 2) (mCons (mVar 5) mNil)))))) (mTest (mOp (gIn false) (mOp gIx (mVar 5) (mC (.int 0))) (mVar 3)))) mNo mSkip) (mDput [5] 3 (mOp gIx (mVar 5) (mC (.int 0))) (mOp gIx (mVar 5) (mC (.int 1)))))
def fstK (w : Str × Int) : Key × D := (Sum.inr w.1, .int w.2)
theorem look_none {l : List (Str × Int)} {x : Str} (h : x ∉ l.map (·.1)) : lookK (l.map fstK) (.inr x) = none := by
  have : (fun w : Str × Int => ((Sum.inr w.1 : Key), D.int w.2)) = fstK := rfl
  rw [← this, lookK_map (fun w : Str × Int => Sum.inr w.1) (fun w => D.int w.2), find_inr (fun w : Str × Int => w.1)]
  have : l.find? (fun w => decide (w.1 = x)) = none := List.find?_eq_none.mpr fun w hw hx => h (of_decide_eq_true hx ▸ List.mem_map_of_mem hw)
  rw [this]; rfl
theorem put_none {ks : List (Key × D)} {k : Key} {d : D} (h : lookK ks k = none) : putD ks k d = ks ++ [(k, d)] := by
  have : (ks.any fun kv => decide (kv.1 = k)) = false := by
    induction ks with
    | nil => rfl
    | cons a l ih =>
      have h' : (if a.1 = k then some a.2 else lookK l k) = none := h
      by_cases e : a.1 = k
      · rw [if_pos e] at h'; cases h'
      · rw [if_neg e] at h'
        rw [List.any_cons, decide_eq_false e, ih h']; rfl
  unfold putD
  rw [this]; rfl
theorem nwBody_eq {A B : D} {ps : List Per} (nd : (ps.map (·.nm)).Nodup) {acc : List (Str × Int)} (hl : acc.length < sizeLine) {w : Str × Int} (hw : fstOk ps w) (hn : w.1 ∉ acc.map (·.1)) (a : Option (Bool × D)) :
    nwBody (nwE A B (spanD ps) (acc.map fstK) a (some (false, fstD w))) = W.ret (.nx, nwE A B (spanD ps) ((acc ++ [w]).map fstK) a (some (false, fstD w))) := by
  have e1 : (mIf (mOr (mNot (mTest (mDe (mCall 2 sem_is_first_one [] (mCons (mVar 2) (mCons (mVar 5) mNil)))))) (mTest (mOp (gIn false) (mOp gIx (mVar 5) (mC (.int 0))) (mVar 3)))) mNo mSkip) (nwE A B (spanD ps) (acc.map fstK) a (some (false, fstD w))) = W.ret (.nx, nwE A B (spanD ps) (acc.map fstK) a (some (false, fstD w))) := by
    have ra : ∀ (a : Option (Bool × D)) (r : En), ∃ o, roFrom (a :: r) = o :: roFrom r := fun a r => by cases a <;> exact ⟨_, rfl⟩
    have rr : ∃ o, ro (nwE A B (spanD ps) (acc.map fstK) a (some (false, fstD w))) = [some A, some B, some (.dic (spanD ps)), some (.dic (acc.map fstK)), o, some (fstD w)] := by
      cases a <;> exact ⟨_, rfl⟩
    obtain ⟨o, rr⟩ := rr
    refine if_eq false ?_
    rw [rr]
    refine or_eq false false (not_eq true (test_eq true (de_eq (b := false) (call_eq (ds := [.dic (spanD ps), fstD w]) rfl rfl (first_eq nd hw))))) fun _ => test_eq false (op_eq (a := .str w.1) (b := .dic (acc.map fstK)) rfl rfl ?_)
    rw [in_dic, look_none hn]; rfl
  refine (seq_nx e1).trans ?_
  have rr : ∃ o, ro (nwE A B (spanD ps) (acc.map fstK) a (some (false, fstD w))) = [some A, some B, some (.dic (spanD ps)), some (.dic (acc.map fstK)), o, some (fstD w)] := by
    cases a <;> exact ⟨_, rfl⟩
  have rs : ∃ o, see [5] (nwE A B (spanD ps) (acc.map fstK) a (some (false, fstD w))) = [some A, some B, none, none, o, some (fstD w)] := by
    rcases a with _ | ⟨b, d⟩ <;> exact ⟨_, rfl⟩
  obtain ⟨o, rr⟩ := rr
  obtain ⟨o', rs⟩ := rs
  refine Eq.trans (dput_eq (kvs := acc.map fstK) (d := .int w.2) (k := .str w.1) (ky := .inr w.1) rfl (by rw [rs]; rfl) (by rw [rr]; rfl) rfl rfl (by rw [List.length_map]; exact hl)) ?_
  rw [put_none (look_none hn), List.map_append]
  rfl
theorem nwLoop {A B : D} {ps : List Per} (nd : (ps.map (·.nm)).Nodup) : ∀ (ws acc : List (Str × Int)) (k : Nat) (a b : Option (Bool × D)), (acc ++ ws).length ≤ sizeLine → (∀ w ∈ ws, fstOk ps w) → ((acc ++ ws).map (·.1)).Nodup →
    ∃ a' b', forN (pTup 2 (pCons (pName 4) (pCons (pName 5) pNil))) nwBody (enD k (ws.map fstD)) (nwE A B (spanD ps) (acc.map fstK) a b) = W.ret (.nx, nwE A B (spanD ps) ((acc ++ ws).map fstK) a' b')
  | [], acc, k, a, b, _, _, _ => ⟨a, b, by rw [List.append_nil]; rfl⟩
  | w :: ws, acc, k, a, b, hl, hw, hn => by
    have ea : acc ++ w :: ws = (acc ++ [w]) ++ ws := by rw [List.append_assoc]; rfl
    obtain ⟨a', b', ih⟩ := nwLoop (A := A) (B := B) nd ws (acc ++ [w]) (k + 1) (some (false, .int k)) (some (false, fstD w)) (ea ▸ hl) (fun z hz => hw z (List.mem_cons_of_mem _ hz)) (ea ▸ hn)
    refine ⟨a', b', ?_⟩
    rw [List.map_cons]
    show (W.bind (nwBody (nwE A B (spanD ps) (acc.map fstK) (some (false, .int k)) (some (false, fstD w)))) _) = _
    rw [nwBody_eq nd (by rw [List.length_append, List.length_cons] at hl; omega) (hw w List.mem_cons_self) (by
      rw [List.map_append, List.map_cons] at hn
      exact fun z => (List.nodup_append.mp hn).2.2 _ z _ List.mem_cons_self rfl) _, ea]
    exact ih
theorem need_eq (P : Pl) (h : P.Ok) (t : Bool) (ws : List (Str × Int)) (hl : ws.length ≤ sizeLine) (hw : ∀ w ∈ ws, fstOk P.ps w) (hn : (ws.map (·.1)).Nodup) : sem_need_world [plD P, wrapD t (ws.map fstD)] = W.ret (true, .dic (ws.map fstK)) := by
  obtain ⟨a, b, e3⟩ := nwLoop (A := plD P) (B := wrapD t (ws.map fstD)) h.nd ws [] 0 none none hl hw hn
  refine run_ret _ _ _ _ (nwE (plD P) (wrapD t (ws.map fstD)) (spanD P.ps) (ws.map fstK) a b) ?_
  have e1 : (mIf (mNot (mTest (mDe (mCall 1 sem_is_sequence [] (mCons (mVar 1) mNil))))) mNo mSkip) [some (false, plD P), some (false, wrapD t (ws.map fstD)), none, none, none, none] = W.ret (.nx, [some (false, plD P), some (false, wrapD t (ws.map fstD)), none, none, none, none]) := if_eq false (not_eq true (test_eq true (de_eq (b := false) (call_eq (ds := [wrapD t (ws.map fstD)]) rfl rfl (is_seq_wrap t _)))))
  have e2 : (mPar [(2, [0], (mCall 1 sem_spans_of [] (mCons (mVar 0) mNil))), (3, [], mDic0)]) [some (false, plD P), some (false, wrapD t (ws.map fstD)), none, none, none, none] = W.ret (.nx, nwE (plD P) (wrapD t (ws.map fstD)) (spanD P.ps) [] none none) := by
    have c : (mCall 1 sem_spans_of [] (mCons (mVar 0) mNil)) [some (plD P), some (wrapD t (ws.map fstD)), none, none, none, none] = W.ret (true, .dic (spanD P.ps)) := call_eq (ds := [plD P]) rfl rfl (spans_eq P h)
    show W.bind (W.bind (up _ ((mCall 1 sem_spans_of [] (mCons (mVar 0) mNil)) [some (plD P), some (wrapD t (ws.map fstD)), none, none, none, none])) fun x => parN [some (false, plD P), some (false, wrapD t (ws.map fstD)), none, none, none, none] [(3, [], mDic0)] [2] (asg [0] 2 x [some (false, plD P), some (false, wrapD t (ws.map fstD)), none, none, none, none])) (fun ρ' => W.ret (Fl.nx, ρ')) = _
    rw [c]
    show W.ret (Fl.nx, asg [] 3 (true, .dic []) (asg [0] 2 (true, .dic (spanD P.ps)) [some (false, plD P), some (false, wrapD t (ws.map fstD)), none, none, none, none])) = _
    rw [asg_imm (r := (true, .dic (spanD P.ps))) (immK_span _), asg_imm (r := (true, .dic [])) rfl]
    rfl
  refine (seq_nx e1).trans ((seq_nx e2).trans ((seq_nx (Eq.trans (for_eq (ds := enD 0 (ws.map fstD)) ?_) e3)).trans rfl))
  cases t <;> rfl
end FbL
end

section
set_option Elab.async false
set_option linter.all false
set_option maxRecDepth 100000
set_option maxHeartbeats 4000000
namespace FbL
open PySem PySem.Spec PyProof.Rows L2 Fb
def fstF (ws : List (Str × Int)) (n : Str) : Option Int := (ws.find? fun w => decide (w.1 = n)).map (·.2)
theorem look_fst (ws : List (Str × Int)) (n : Str) : (lookK (ws.map fstK) (.inr n)).getD .non = optD (fstF ws n) := by
  have : (fun w : Str × Int => ((Sum.inr w.1 : Key), D.int w.2)) = fstK := rfl
  rw [← this, lookK_map (fun w : Str × Int => Sum.inr w.1) (fun w => D.int w.2), find_inr (fun w : Str × Int => w.1)]
  show ((ws.find? fun w : Str × Int => decide (w.1 = n)).map fun w => D.int w.2).getD .non = optD ((ws.find? fun w : Str × Int => decide (w.1 = n)).map (·.2))
  generalize (ws.find? fun w : Str × Int => decide (w.1 = n)) = o
  cases o <;> rfl
def sinceM (P : Pl) (ws : List (Str × Int)) : Str → Option Int := daysM P (fstF ws)
structure WOk (P : Pl) (ws : List (Str × Int)) : Prop where
  len : ws.length ≤ sizeLine
  ok : ∀ w ∈ ws, fstOk P.ps w
  nd : (ws.map (·.1)).Nodup
theorem found_eq (P : Pl) (h : P.Ok) (hl : P.ps.length < sizeLine) (t : Bool) {ws : List (Str × Int)} (hw : WOk P ws) {ρ : Ro} (h0 : mVar 0 ρ = W.ret (plD P)) (h1 : mVar 1 ρ = W.ret (wrapD t (ws.map fstD))) :
    (mCall 2 sem_days_by [] (mCons (mVar 0) (mCons (mDe (mCall 2 sem_need_world [] (mCons (mVar 0) (mCons (mVar 1) mNil)))) mNil))) ρ = W.ret (true, .dic (dayD P.names (sinceM P ws))) :=
  call_eq (ds := [plD P, .dic (ws.map fstK)]) (cons_eq h0 (cons_eq (de_eq (call_eq (ds := [plD P, wrapD t (ws.map fstD)]) (cons_eq h0 (cons_eq h1 rfl)) rfl (need_eq P h t ws hw.len hw.ok hw.nd))) rfl)) rfl (days_by_eq P h hl _ _ (look_fst ws))
theorem since_eq (P : Pl) (h : P.Ok) (hl : P.ps.length < sizeLine) (t : Bool) {ws : List (Str × Int)} (hw : WOk P ws) : sem_since [plD P, wrapD t (ws.map fstD)] = W.ret (false, .tup (P.names.map fun n => optD (sinceM P ws n))) := by
  refine run_ret _ _ _ _ [some (false, plD P), some (false, wrapD t (ws.map fstD)), some (true, .dic (dayD P.names (sinceM P ws))), none] ?_
  refine (seq_nx (ρ' := [some (false, plD P), some (false, wrapD t (ws.map fstD)), some (true, .dic (dayD P.names (sinceM P ws))), none]) (set_eq (found_eq P h hl t hw rfl rfl) (asg_imm (r := (true, .dic (dayD P.names (sinceM P ws)))) (immK_day _ _)))).trans (ret_eq (blt_eq (ds := [.lst (P.names.map fun n => optD (sinceM P ws n))]) (cons_eq (de_eq (b := true) (lc_eq (walk_eq (d := .tup (P.names.map D.str)) (de_eq (b := false) (prop_names P h.lp rfl)) rfl) (by unfold Pl.names; rw [List.length_map, List.length_map]; exact h.lp) ?_)) rfl) rfl))
  rw [lcN_all (fun d => match d with | .str n => optD (sinceM P ws n) | _ => .non) fun d hd => by
    obtain ⟨n, hn, rfl⟩ := List.mem_map.mp hd
    exact ⟨[(3, .str n)], rfl, op_eq (a := .dic (dayD P.names (sinceM P ws))) (b := .str n) rfl rfl (ix_day hn)⟩]
  rw [List.map_map]; rfl
def leS (a b : Str) : Bool := leD (.str a) (.str b)
theorem sorted_strs (l : List Str) (hl : l.length ≤ sizeLine) : gSorted [.lst (l.map D.str)] = W.ret (true, .lst ((l.mergeSort leS).map D.str)) := by
  have hs : sortOk (l.map D.str) = true := by
    have h1 : ∀ (q : D → Bool), (∀ m, q (.str m) = true) → (l.map D.str).all q = true := fun q hq => by
      rw [List.all_map]; exact List.all_eq_true.mpr fun m _ => hq m
    unfold sortOk
    exact Bool.and_eq_true_iff.mpr ⟨Bool.and_eq_true_iff.mpr ⟨Bool.and_eq_true_iff.mpr ⟨h1 _ fun m => rfl, h1 _ fun m => h1 _ fun m' => rfl⟩, Bool.or_eq_true_iff.mpr (.inr (h1 _ fun m => rfl))⟩, decide_eq_true (by rw [List.length_map]; exact hl)⟩
  have hm : (l.map D.str).mergeSort leD = (l.mergeSort leS).map D.str := (List.map_mergeSort (r := leS) (s := leD) (f := D.str) (l := l) fun a _ b _ => rfl).symm
  show (if sortOk (l.map D.str) = true then W.ret (true, D.lst ((l.map D.str).mergeSort leD)) else W.fail) = _
  rw [if_pos hs, hm]
theorem app_eq {fz : List Nat} {i : Nat} {m : Ro → W Ex D} {ρ : En} {ds : List D} {d : D} (h0 : ρ[i]? = some (some (true, .lst ds))) (hm : m (see fz ρ) = W.ret d) (hi : imm d = true) (hl : ds.length < sizeLine) : mApp fz i m ρ = W.ret (.nx, ρ.set i (some (true, .lst (ds ++ [d])))) := by
  show (W.got (slotL ρ[i]?) fun ds => W.bind (up ρ (m (see fz ρ))) fun d => W.got (tak fz i d ρ) fun ρ' => if ds.length < sizeLine then W.ret (Fl.nx, ρ'.set i (some (true, D.lst (ds ++ [d])))) else W.fail) = _
  rw [h0]
  show (W.bind (up ρ (m (see fz ρ))) fun d => W.got (tak fz i d ρ) fun ρ' => if ds.length < sizeLine then W.ret (Fl.nx, ρ'.set i (some (true, D.lst (ds ++ [d])))) else W.fail) = _
  rw [hm]
  show (W.got (if imm d = true then some ρ else if i ∈ fz then none else some (frz fz ρ)) fun ρ' => if ds.length < sizeLine then W.ret (Fl.nx, ρ'.set i (some (true, D.lst (ds ++ [d])))) else W.fail) = _
  rw [if_pos hi]
  show (if ds.length < sizeLine then W.ret (Fl.nx, ρ.set i (some (true, D.lst (ds ++ [d])))) else W.fail) = _
  rw [if_pos hl]
/-! ### lots -/
def inLot (g : Str → Option Int) (q : Per → Int) (day : Int) (p : Per) : Bool := match g p.nm with
  | none => false
  | some b => decide (b + q p ≤ day)
def lbE (A : D) (ns : List Str) (g : Str → Option Int) (k day : Int) (acc : List Str) (a b : Option (Bool × D)) : En := [some (false, A), some (false, .dic (dayD ns g)), some (false, .int k), some (false, .int day), some (true, .lst (acc.map D.str)), a, b, none]
def lbBody : En → WS := (mSeq (mSet [1, 5] 6 (mDr (mOp gIx (mVar 1) (mOp gIx (mVar 5) (mC (.int 0)))))) (mIf (mAnd (mTest (mOp (gIs true) (mVar 6) (mC .non))) (mTest (mOp gLe (mDe (mOpR gAdd (mVar 6) (mOp gIx (mVar 5) (mVar 2)))) (mVar 3)))) (mApp [5] 4 (mOp gIx (mVar 5) (mC (.int 0)))) mSkip))
theorem lbBody_eq {A : D} {ns : List Str} {g : Str → Option Int} {k day : Int} {q : Per → Int} (hq : ∀ p, gIx (perD p) (.int k) = W.ret (.int (q p))) {acc : List Str} (hl : acc.length < sizeLine) (p : Per) (hp : p.nm ∈ ns) (b : Option (Bool × D)) :
    lbBody (lbE A ns g k day acc (some (false, perD p)) b) = W.ret (.nx, lbE A ns g k day (if inLot g q day p = true then acc ++ [p.nm] else acc) (some (false, perD p)) (some (false, optD (g p.nm)))) := by
  have rs : ∃ o, see [1, 5] (lbE A ns g k day acc (some (false, perD p)) b) = [some A, some (.dic (dayD ns g)), some (.int k), some (.int day), none, some (perD p), o, none] := by
    rcases b with _ | ⟨_, _⟩ <;> exact ⟨_, rfl⟩
  obtain ⟨o, rs⟩ := rs
  have e1 : mSet [1, 5] 6 (mDr (mOp gIx (mVar 1) (mOp gIx (mVar 5) (mC (.int 0))))) (lbE A ns g k day acc (some (false, perD p)) b) = W.ret (.nx, lbE A ns g k day acc (some (false, perD p)) (some (false, optD (g p.nm)))) :=
    set_eq (by rw [rs]; exact dr_eq (op_eq (a := .dic (dayD ns g)) (b := .str p.nm) rfl rfl (ix_day hp))) (asg_imm (imm_opt _))
  refine (seq_nx e1).trans ?_
  have ea : (mApp [5] 4 (mOp gIx (mVar 5) (mC (.int 0)))) (lbE A ns g k day acc (some (false, perD p)) (some (false, optD (g p.nm)))) = W.ret (.nx, lbE A ns g k day (acc ++ [p.nm]) (some (false, perD p)) (some (false, optD (g p.nm)))) := by
    refine Eq.trans (app_eq (ds := acc.map D.str) (d := .str p.nm) rfl rfl rfl (by rw [List.length_map]; exact hl)) ?_
    unfold lbE
    rw [List.map_append]; rfl
  refine Eq.trans (if_eq (inLot g q day p) ?_) ?_
  · unfold inLot
    rcases e : g p.nm with _ | v
    · exact and_eq false false rfl fun z => nomatch z
    · refine (and_eq true (decide (v + q p ≤ day)) rfl fun _ => test_eq _ ?_).trans rfl
      refine op_eq (a := .int (v + q p)) (b := .int day) (de_eq (b := false) ?_) rfl rfl
      show (W.bind (W.ret (D.int v)) fun a => W.bind (mOp gIx (mVar 5) (mVar 2) _) fun b => W.calm (gAdd a b)) = _
      rw [op_eq (m := mVar 5) (n := mVar 2) (a := perD p) (b := .int k) rfl rfl (hq p)]
      rfl
  · cases inLot g q day p
    · rfl
    · exact ea
theorem lbLoop {A : D} {ns : List Str} {g : Str → Option Int} {k day : Int} {q : Per → Int} (hq : ∀ p, gIx (perD p) (.int k) = W.ret (.int (q p))) : ∀ (ps : List Per) (acc : List Str) (a b : Option (Bool × D)), acc.length + ps.length ≤ sizeLine → (∀ p ∈ ps, p.nm ∈ ns) →
    ∃ a' b', forN (pName 5) lbBody (ps.map perD) (lbE A ns g k day acc a b) = W.ret (.nx, lbE A ns g k day (acc ++ (ps.filter (inLot g q day)).map (·.nm)) a' b')
  | [], acc, a, b, _, _ => ⟨a, b, by
    show W.ret (Fl.nx, lbE A ns g k day acc a b) = W.ret (Fl.nx, lbE A ns g k day (acc ++ []) a b)
    rw [List.append_nil]⟩
  | p :: ps, acc, a, b, hl, hp => by
    rw [List.length_cons] at hl
    obtain ⟨a', b', ih⟩ := lbLoop (A := A) (ns := ns) (g := g) (day := day) hq ps (if inLot g q day p = true then acc ++ [p.nm] else acc) (some (false, perD p)) (some (false, optD (g p.nm))) (by split <;> first | (rw [List.length_append]; simp; omega) | omega) fun z hz => hp z (List.mem_cons_of_mem _ hz)
    refine ⟨a', b', ?_⟩
    rw [List.map_cons]
    show (W.bind (lbBody (lbE A ns g k day acc (some (false, perD p)) b)) _) = _
    rw [lbBody_eq hq (by omega) p (hp p List.mem_cons_self) b]
    refine Eq.trans ih ?_
    rw [List.filter_cons]
    split <;> simp
theorem lot_eq (P : Pl) (h : P.Ok) (g : Str → Option Int) (k day : Int) (q : Per → Int) (hq : ∀ p, gIx (perD p) (.int k) = W.ret (.int (q p))) : sem_lot_by [plD P, .dic (dayD P.names g), .int k, .int day] = W.ret (false, .tup ((((P.ps.filter (inLot g q day)).map (·.nm)).mergeSort leS).map D.str)) := by
  obtain ⟨a, b, e⟩ := lbLoop (A := plD P) (ns := P.names) (g := g) (day := day) hq P.ps [] none none (by rw [List.length_nil]; have := h.lp; omega) fun p hp => List.mem_map_of_mem hp
  rw [List.nil_append] at e
  have hll : ((P.ps.filter (inLot g q day)).map (·.nm)).length ≤ sizeLine := by rw [List.length_map]; exact Nat.le_trans (List.length_filter_le ..) h.lp
  generalize (P.ps.filter (inLot g q day)).map (·.nm) = l at e hll
  refine run_ret _ _ _ _ (lbE (plD P) P.names g k day l a b) ?_
  have e1 : mSet [] 4 (mLst mNil) [some (false, plD P), some (false, .dic (dayD P.names g)), some (false, .int k), some (false, .int day), none, none, none, none] = W.ret (.nx, lbE (plD P) P.names g k day [] none none) := set_eq (r := (true, .lst [])) rfl (asg_imm rfl)
  refine (seq_nx e1).trans ((seq_nx (Eq.trans (for_eq (ds := P.ps.map perD) rfl) e)).trans (ret_eq (blt_eq (ds := [.lst ((l.mergeSort leS).map D.str)]) (cons_eq (de_eq (b := true) (blt_eq (ds := [.lst (l.map D.str)]) (cons_eq (de_eq (b := true) (lc_eq (xs := l.map D.str) ?_ (by rw [List.length_map]; exact hll) ?_)) rfl) (sorted_strs l hll))) rfl) rfl)))
  · cases a <;> cases b <;> rfl
  · rw [lcN_all id fun d hd => by
      obtain ⟨n, hn, rfl⟩ := List.mem_map.mp hd
      refine ⟨[(7, .str n)], rfl, ?_⟩
      cases a <;> cases b <;> rfl]
    rw [List.map_id]
theorem able_eq (P : Pl) (h : P.Ok) (hl : P.ps.length < sizeLine) (t : Bool) {ws : List (Str × Int)} (hw : WOk P ws) (day : Int) : sem_able [plD P, wrapD t (ws.map fstD), .int day] = W.ret (false, .tup ((((P.ps.filter (inLot (sinceM P ws) (·.w) day)).map (·.nm)).mergeSort leS).map D.str)) :=
  run_ret _ _ _ _ [some (false, plD P), some (false, wrapD t (ws.map fstD)), some (false, .int day)] (ret_eq (call_eq (ds := [plD P, .dic (dayD P.names (sinceM P ws)), .int 1, .int day]) (cons_eq rfl (cons_eq (de_eq (found_eq P h hl t hw rfl rfl)) rfl)) rfl (lot_eq P h _ 1 day _ fun _ => rfl)))
theorem shows_eq (P : Pl) (h : P.Ok) (hl : P.ps.length < sizeLine) (t : Bool) {ws : List (Str × Int)} (hw : WOk P ws) (day : Int) : sem_shows [plD P, wrapD t (ws.map fstD), .int day] = W.ret (false, .tup ((((P.ps.filter (inLot (sinceM P ws) (·.s) day)).map (·.nm)).mergeSort leS).map D.str)) :=
  run_ret _ _ _ _ [some (false, plD P), some (false, wrapD t (ws.map fstD)), some (false, .int day)] (ret_eq (call_eq (ds := [plD P, .dic (dayD P.names (sinceM P ws)), .int 2, .int day]) (cons_eq rfl (cons_eq (de_eq (found_eq P h hl t hw rfl rfl)) rfl)) rfl (lot_eq P h _ 2 day _ fun _ => rfl)))
end FbL
end

section
set_option Elab.async false
set_option linter.all false
set_option maxRecDepth 100000
set_option maxHeartbeats 4000000
namespace FbL
open PySem PySem.Spec PyProof.Rows L2 Fb
theorem opR_eq {g : D → D → Rt} {m n : Ro → W Ex D} {ρ : Ro} {a b : D} {r : Bool × D} (hm : m ρ = W.ret a) (hn : n ρ = W.ret b) (h : g a b = W.ret r) : mOpR g m n ρ = W.ret r := by
  show W.bind (m ρ) (fun a => W.bind (n ρ) fun b => W.calm (g a b)) = _
  rw [hm]
  show W.bind (n ρ) (fun b => W.calm (g a b)) = _
  rw [hn]
  show W.calm (g a b) = _
  rw [h]; rfl
theorem lst_eq {m : Ro → W Ex (List D)} {ρ : Ro} {ds : List D} (h : m ρ = W.ret ds) (hl : ds.length ≤ sizeLine) : mLst m ρ = W.ret (true, .lst ds) := by
  show W.bind (m ρ) (fun ds => szd ds (W.ret (true, D.lst ds))) = _
  rw [h]
  show (if ds.length ≤ sizeLine then W.ret (true, D.lst ds) else W.fail) = _
  rw [if_pos hl]
theorem mul_l {a b : Int} (h : -(2 ^ 64) < a ∧ a < 2 ^ 64) : gMul (.int a) (.int b) = W.ret (.int (a * b)) := by
  show (if (-(2 ^ 64) < a ∧ a < 2 ^ 64) ∨ (-(2 ^ 64) < b ∧ b < 2 ^ 64) then W.ret (D.int (a * b)) else W.fail) = _
  rw [if_pos (.inl h)]
theorem cell_eq {ns : List Int} {i : Int} (h0 : 0 ≤ i) (h1 : i < ns.length) : ∃ x, gIxScr (.scr ns) (.int i) = W.ret (.int x) := by
  have hi : i.toNat < ns.length := by omega
  refine ⟨ns[i.toNat], ?_⟩
  have : atI ns i = some ns[i.toNat] := by
    unfold atI ixN
    rw [if_pos h0, if_pos h1]
    exact List.getElem?_eq_getElem hi
  show (W.got (atI ns i) fun j => W.ret (D.int j)) = _
  rw [this]; rfl
abbrev sdE (ns : List Int) (j c : Int) : En := [some (false, .scr ns), some (false, .int j), some (false, .int c), none]
theorem seed_key (ns : List Int) (j : Int) (h0 : 0 ≤ j) : ∃ i m, sem__law_seed0 [.scr ns, .int j] = W.ret (true, .lst [.int i, .int m]) := by
  have e1 : ∃ c, mSet [1] 2 (mOpR gAdd (mOp gMul (mC (.int 8219)) (mVar 1)) (mC (.int 127))) [some (false, .scr ns), some (false, .int j), none, none] = W.ret (.nx, sdE ns j c) :=
    ⟨8219 * j + 127, set_eq (r := (false, .int (8219 * j + 127))) (opR_eq (a := .int (8219 * j)) (b := .int 127) (op_eq (a := .int 8219) (b := .int j) rfl rfl (mul_l (by decide))) rfl rfl) (asg_imm rfl)⟩
  obtain ⟨c, e1⟩ := e1
  have e2 : ∃ c', (mIf (mTest (mOp gLt (mVar 1) (mDe (mBlt (g1 lenD) (mCons (mVar 0) mNil))))) (mSet [0, 1] 2 (mBlt (g1 absD) (mCons (mOp gIxScr (mVar 0) (mVar 1)) mNil))) (mIf (mTest (mOp gGt (mDe (mBlt (g1 lenD) (mCons (mVar 0) mNil))) (mC (.int 0)))) (mSet [2, 0, 1] 2 (mOpR gAdd (mVar 2) (mOp gMul (mOp gMod (mDe (mBlt (g1 intD) (mCons (mDe (mBlt (g1 absD) (mCons (mOp gIxScr (mVar 0) (mOp gMod (mDe (mBlt (g1 intD) (mCons (mVar 1) mNil))) (mDe (mBlt (g1 lenD) (mCons (mVar 0) mNil))))) mNil))) mNil))) (mC (.int 2147483629))) (mC (.int 46021))))) mSkip)) (sdE ns j c) = W.ret (.nx, sdE ns j c') := by
    have t1 : (mTest (mOp gLt (mVar 1) (mDe (mBlt (g1 lenD) (mCons (mVar 0) mNil))))) (ro (sdE ns j c)) = W.ret (decide (j < ns.length)) := rfl
    have t2 : (mTest (mOp gGt (mDe (mBlt (g1 lenD) (mCons (mVar 0) mNil))) (mC (.int 0)))) (ro (sdE ns j c)) = W.ret (decide ((0 : Int) < ns.length)) := rfl
    by_cases hj : j < ns.length
    · obtain ⟨x, hx⟩ := cell_eq h0 hj
      refine ⟨if x < 0 then -x else x, (if_eq true (t1.trans (by rw [decide_eq_true hj]))).trans ?_⟩
      exact set_eq (r := (false, .int (if x < 0 then -x else x))) (blt_eq (ds := [.int x]) (cons_eq (op_eq (a := .scr ns) (b := .int j) rfl rfl hx) rfl) rfl) (asg_imm rfl)
    · by_cases hn : (0 : Int) < ns.length
      · obtain ⟨x, hx⟩ := cell_eq (ns := ns) (i := j % ns.length) (Int.emod_nonneg _ (by omega)) (Int.emod_lt_of_pos _ hn)
        refine ⟨c + (if x < 0 then -x else x) % 2147483629 * 46021, (if_eq false (t1.trans (by rw [decide_eq_false hj]))).trans ((if_eq true (t2.trans (by rw [decide_eq_true hn]))).trans ?_)⟩
        exact set_eq (r := (false, .int (c + (if x < 0 then -x else x) % 2147483629 * 46021))) (opR_eq (a := .int c) (b := .int ((if x < 0 then -x else x) % 2147483629 * 46021)) rfl (op_eq (a := .int ((if x < 0 then -x else x) % 2147483629)) (b := .int 46021) (op_eq (a := .int (if x < 0 then -x else x)) (b := .int 2147483629) (de_eq (b := false) (blt_eq (ds := [.int (if x < 0 then -x else x)]) (cons_eq (de_eq (b := false) (blt_eq (ds := [.int x]) (cons_eq (op_eq (a := .scr ns) (b := .int (j % ns.length)) rfl (op_eq (a := .int j) (b := .int ns.length) rfl rfl (mod_pos hn)) hx) rfl) rfl)) rfl) rfl)) rfl (mod_pos (by decide))) rfl (mul_sm (by decide))) rfl) (asg_imm rfl)
      · exact ⟨c, (if_eq false (t1.trans (by rw [decide_eq_false hj]))).trans ((if_eq false (t2.trans (by rw [decide_eq_false hn]))).trans rfl)⟩
  obtain ⟨c', e2⟩ := e2
  have e3 : ∃ d, mSet [2] 3 (mDr (mIfE (mTest (mOp gGe (mVar 2) (mOp gPow (mC (.int 10)) (mC (.int 18))))) (mVar 2) (mC (.int 0)))) (sdE ns j c') = W.ret (.nx, [some (false, .scr ns), some (false, .int j), some (false, .int c'), some (false, .int d)]) := by
    refine ⟨if decide ((1000000000000000000 : Int) ≤ c') = true then c' else 0, set_eq (r := (false, .int (if decide ((1000000000000000000 : Int) ≤ c') = true then c' else 0))) (dr_eq ?_) (asg_imm rfl)⟩
    show (W.bind (W.ret (decide ((1000000000000000000 : Int) ≤ c'))) fun b => if b = true then W.ret (D.int c') else W.ret (D.int 0)) = _
    cases decide ((1000000000000000000 : Int) ≤ c') <;> rfl
  obtain ⟨d, e3⟩ := e3
  refine ⟨d, (c' % 2147483629 * 48271 + 39119 * j) % 2147483629 + 1, run_ret _ _ _ _ _ ((seq_nx e1).trans ((seq_nx e2).trans ((seq_nx e3).trans (ret_eq ?_))))⟩
  refine lst_eq (cons_eq (d := .int d) rfl (cons_eq (de_eq (b := false) (opR_eq (a := .int ((c' % 2147483629 * 48271 + 39119 * j) % 2147483629)) (b := .int 1) (op_eq (a := .int (c' % 2147483629 * 48271 + 39119 * j)) (b := .int 2147483629) (de_eq (b := false) (blt_eq (ds := [.int (c' % 2147483629 * 48271 + 39119 * j)]) (cons_eq (de_eq (b := false) (opR_eq (a := .int (c' % 2147483629 * 48271)) (b := .int (39119 * j)) (op_eq (a := .int (c' % 2147483629)) (b := .int 48271) (op_eq (a := .int c') (b := .int 2147483629) rfl rfl (mod_pos (by decide))) rfl (mul_sm (by decide))) (op_eq (a := .int 39119) (b := .int j) rfl rfl (mul_l (by decide))) rfl)) rfl) rfl)) rfl (mod_pos (by decide))) rfl rfl)) rfl)) (small (by show 2 ≤ 1000; decide))
theorem seed_sem (ns : List Int) (j : Int) (hl : ns.length ≤ 63) (h0 : 0 ≤ j) (h1 : j < 1000) (Q : Bool × D → Prop) (E : Ex → Prop) (q : ∀ (i m : Int), Q (true, .lst [.int i, .int m])) : sem__law_seed0 [.scr ns, .int j] Q E := by
  obtain ⟨i, m, e⟩ := seed_key ns j h0
  rw [e]
  exact q i m
end FbL
end

section
set_option Elab.async false
set_option linter.all false
set_option maxRecDepth 100000
set_option maxHeartbeats 1000000
namespace FbL
open PySem PySem.Spec PyProof.Rows L2 Fb
def unS : D → Str
  | .str x => x
  | _ => ""
theorem perm_map {α : Type} (f : α → D) (g : D → α) (hg : ∀ a, g (f a) = a) {k : List D} {l : List α} (h : k.Perm (l.map f)) : ∃ k' : List α, k'.Perm l ∧ k = k'.map f := by
  refine ⟨k.map g, ?_, ?_⟩
  · have := h.map g
    rw [List.map_map] at this
    exact this.trans (List.Perm.of_eq ((List.map_congr_left fun a _ => hg a).trans (List.map_id l)))
  · rw [List.map_map]
    refine ((List.map_congr_left fun d hd => ?_).trans (List.map_id k)).symm
    obtain ⟨x, _, rfl⟩ := List.mem_map.mp (h.mem_iff.mp hd)
    show f (g (f x)) = f x
    rw [hg]
theorem call_un {n : Nat} {sem : List D → Rt} {m : Ro → W Ex (List D)} {ρ : Ro} {ds : List D} (hm : m ρ = W.ret ds) (hn : ds.length = n) : mCall n sem [] m ρ = sem ds := by
  show W.bind (m ρ) (fun ds => if (ds ++ []).length = n then sem (ds ++ []) else W.fail) = _
  rw [hm]
  show (if (ds ++ []).length = n then sem (ds ++ []) else W.fail) = _
  rw [List.append_nil, if_pos hn]
theorem bindrun {ε α β : Type} {m : W ε α} {k : α → W ε β} {Q : β → Prop} {E : ε → Prop} (h : m (fun a => k a Q E) E) : W.bind m k Q E := h
theorem uprun {α : Type} {ρ : En} {m : W Ex α} {Q : α → Prop} {E : Ex × En → Prop} (h : m Q (fun x => E (x, ρ))) : up ρ m Q E := h
theorem retrun {ε α : Type} {a : α} {Q : α → Prop} {E : ε → Prop} (h : Q a) : (W.ret a : W ε α) Q E := h
theorem eqrun {ε α : Type} {m : W ε α} {a : α} (e : m = W.ret a) {Q : α → Prop} {E : ε → Prop} (h : Q a) : m Q E := by rw [e]; exact h
theorem varrun {i : Nat} {ρ : Ro} {d : D} (h : ρ[i]? = some (some d)) {Q : D → Prop} {E : Ex → Prop} (k : Q d) : mVar i ρ Q E := by
  unfold mVar
  rw [h]
  exact k
theorem calmrun {ε α : Type} {m : W ε α} {a : α} (e : m = W.ret a) {Q : α → Prop} {E : ε → Prop} (h : Q a) : W.calm m Q E := by rw [e]; exact h
theorem erase_perm {α : Type} : ∀ {l : List α} {i : Nat} (h : i < l.length), (l[i] :: l.eraseIdx i).Perm l
  | [], _, h => nomatch h
  | a :: l, 0, h => .refl _
  | a :: l, i + 1, h => (List.Perm.swap a _ _).trans ((erase_perm (l := l) (i := i) (Nat.lt_of_succ_lt_succ h)).cons a)
/-! ### draws from the box of two numbers -/
theorem choose_eq {m : Int} (h : 0 < m ∧ m < 1073741824) (Q : Bool × D → Prop) (E : Ex → Prop) (q : ∀ r : Int, 0 ≤ r → r < m → Q (false, .int r)) : sem__law_choose [.box 1, .int m] Q E := ⟨h.1, h.2, q⟩
/-- a draw as an expression -/
theorem choose_run {m : Int} (h : 0 < m ∧ m < 1073741824) {a : Ro → W Ex (List D)} {ρ : Ro} (ha : a ρ = W.ret [.box 1, .int m]) {Q : Bool × D → Prop} {E : Ex → Prop} (q : ∀ r : Int, 0 ≤ r → r < m → Q (false, .int r)) : mCall 2 sem__law_choose [] a ρ Q E := by
  rw [call_un (n := 2) ha rfl]
  exact choose_eq h _ _ q
def myE (A : D) (os fs : List D) (a : Option (Bool × D)) : En := [some (false, .box 1), some (false, A), some (true, .lst os), some (true, .lst fs), a]
def myB : En → WS := (mAppPop 3 2 (mDe (mCall 2 sem__law_choose [] (mCons (mVar 0) (mCons (mDe (mBlt (g1 lenD) (mCons (mVar 2) mNil))) mNil)))))
theorem my_loop {A : D} {Q : Fl × En → Prop} {E : Ex × En → Prop} : ∀ (is : List D) (os fs : List D) (a : Option (Bool × D)), os.length = is.length → (os.length + fs.length ≤ 1000) → (∀ k a', k.Perm (fs ++ os) → Q (.nx, myE A [] k a')) → forN (pName 4) myB is (myE A os fs a) Q E
  | [], os, fs, a, hn, hl, q => by
    have : os = [] := List.length_eq_zero_iff.mp hn
    subst this
    exact q fs a (by rw [List.append_nil])
  | i :: is, os, fs, a, hn, hl, q => by
    rw [List.length_cons] at hn
    have hz := sizeLine_ge
    show (W.bind (myB (myE A os fs (some (false, i)))) fun p => match p with
      | (.nx, ρ') => forN (pName 4) myB is ρ'
      | (.ct, ρ') => forN (pName 4) myB is ρ'
      | (.bk, ρ') => W.ret (.nx, ρ')
      | (.rt r, ρ') => W.ret (.rt r, ρ')) Q E
    refine (⟨by rw [hn]; omega, by rw [hn]; omega, fun r h0 h1 => ?_⟩ : (0 : Int) < (os.length : Int) ∧ (os.length : Int) < 1073741824 ∧ ∀ r : Int, 0 ≤ r → r < (os.length : Int) → _)
    have hr : r.toNat < os.length := by omega
    show (if 0 ≤ r ∧ r < os.length ∧ os.length ≤ sizeLine ∧ fs.length < sizeLine then W.got os[r.toNat]? fun y => W.ret (Fl.nx, ((myE A os fs (some (false, i))).set 2 (some (true, D.lst (os.eraseIdx r.toNat)))).set 3 (some (true, D.lst (fs ++ [y])))) else W.fail) _ _
    rw [if_pos ⟨h0, h1, by omega, by omega⟩, List.getElem?_eq_getElem hr]
    show forN (pName 4) myB is (myE A (os.eraseIdx r.toNat) (fs ++ [os[r.toNat]]) (some (false, i))) Q E
    refine my_loop is _ _ _ (by rw [List.length_eraseIdx_of_lt hr]; omega) (by rw [List.length_eraseIdx_of_lt hr, List.length_append]; simp; omega) fun k a' hk => q k a' (hk.trans ?_)
    rw [List.append_assoc]
    exact List.Perm.append_left fs (erase_perm hr)
theorem rngD_len (lo : Int) (n : Nat) : (rngD lo n).length = n := by unfold rngD; rw [List.length_map, List.length_range]
theorem rng1_eq {n : Nat} (h : n ≤ 100000) : rng1D [.int n] = W.ret (rngD 0 n) := by
  have : rng1D [.int n] = if -2 ^ 62 ≤ (n : Int) ∧ (n : Int) < 2 ^ 62 then W.ret (rngD 0 (n : Int).toNat) else W.fail := by unfold rng1D; rfl
  rw [this, if_pos (by omega), Int.toNat_natCast]
theorem mixed_sem (l : List D) (hl : l.length ≤ 1000) (hi : imms l = true) (Q : Bool × D → Prop) (E : Ex → Prop) (q : ∀ k : List D, k.Perm l → Q (true, .lst k)) : sem__law_mixed [.box 1, .lst l] Q E := by
  have p1 : (mPar [(2, [1], (mBlt (gList) (mCons (mVar 1) mNil))), (3, [], (mLst mNil))]) [some (false, .box 1), some (false, .lst l), none, none, none] = W.ret (.nx, myE (.lst l) l [] none) := by
    show W.ret (Fl.nx, asg [] 3 (true, .lst []) (asg [1] 2 (true, .lst l) [some (false, .box 1), some (false, .lst l), none, none, none])) = _
    rw [asg_imm (r := (true, .lst l)) hi, asg_imm (r := (true, .lst [])) rfl]
    rfl
  have p2 : (mRng1 (mCons (mDe (mBlt (g1 lenD) (mCons (mVar 1) mNil))) mNil)) (see [1] (myE (.lst l) l [] none)) = W.ret (rngD 0 l.length) := by
    have c : (mCons (mDe (mBlt (g1 lenD) (mCons (mVar 1) mNil))) mNil) (see [1] (myE (.lst l) l [] none)) = W.ret [.int l.length] := rfl
    show W.bind ((mCons (mDe (mBlt (g1 lenD) (mCons (mVar 1) mNil))) mNil) (see [1] (myE (.lst l) l [] none))) rng1D = _
    rw [c, rb]
    exact rng1_eq (by omega)
  show (mSeq (mPar [(2, [1], (mBlt (gList) (mCons (mVar 1) mNil))), (3, [], (mLst mNil))]) (mSeq (mFor [1] (mRng1 (mCons (mDe (mBlt (g1 lenD) (mCons (mVar 1) mNil))) mNil)) (pName 4) myB) (mRetV 3))) [some (false, .box 1), some (false, .lst l), none, none, none] _ _
  rw [seq_nx p1]
  have p3 : (mFor [1] (mRng1 (mCons (mDe (mBlt (g1 lenD) (mCons (mVar 1) mNil))) mNil)) (pName 4) myB) (myE (.lst l) l [] none) = forN (pName 4) myB (rngD 0 l.length) (myE (.lst l) l [] none) := (for_eq p2).trans rfl
  unfold mSeq
  rw [p3]
  exact bindrun (my_loop (rngD 0 l.length) l [] none (rngD_len _ _).symm (by rw [List.length_nil]; omega) fun k a' hk => q k hk)
theorem mixed_run {l : List D} (hl : l.length ≤ 1000) (hi : imms l = true) {a : Ro → W Ex (List D)} {ρ : Ro} (ha : a ρ = W.ret [.box 1, .lst l]) {Q : Bool × D → Prop} {E : Ex → Prop} (q : ∀ k : List D, k.Perm l → Q (true, .lst k)) : mCall 2 sem__law_mixed [] a ρ Q E := by
  rw [call_un (n := 2) ha rfl]
  exact mixed_sem l hl hi _ _ q
theorem atI_pos {α : Type} {xs : List α} {i : Int} (h0 : 0 ≤ i) (h1 : i < xs.length) : ∃ x ∈ xs, atI xs i = some x := by
  have hi : i.toNat < xs.length := by omega
  refine ⟨xs[i.toNat], List.getElem_mem hi, ?_⟩
  unfold atI ixN
  rw [if_pos h0, if_pos h1]
  exact List.getElem?_eq_getElem hi
theorem one_of_sem {l : List D} (h0 : l ≠ []) (hl : l.length ≤ 1000000) {Q : Bool × D → Prop} {E : Ex → Prop} (q : ∀ x ∈ l, Q (false, x)) : sem__law_one_of [.box 1, .lst l] Q E := by
  show (mRet (mDr (mOp gIx (mVar 1) (mDe (mCall 2 sem__law_choose [] (mCons (mVar 0) (mCons (mDe (mBlt (g1 lenD) (mCons (mVar 1) mNil))) mNil))))))) [some (false, .box 1), some (false, .lst l)] _ _
  refine bindrun (uprun (bindrun (bindrun (varrun (i := 1) (d := .lst l) rfl (bindrun (bindrun (choose_run (m := l.length) ⟨?_, by omega⟩ rfl fun r h1 h2 => ?_)))))))
  · have := List.length_pos_iff.mpr h0; omega
  · obtain ⟨x, hx, e⟩ := atI_pos h1 h2
    have e2 : gIx (.lst l) (.int r) = W.ret x := by
      unfold gIx
      rw [show ixD (.lst l) (.int r) = atI l r from rfl, e]
    exact calmrun (E := fun _ => False) e2 (q x hx)
theorem one_of_run {l : List D} (h0 : l ≠ []) (hl : l.length ≤ 1000000) {a : Ro → W Ex (List D)} {ρ : Ro} (ha : a ρ = W.ret [.box 1, .lst l]) {Q : Bool × D → Prop} {E : Ex → Prop} (q : ∀ x ∈ l, Q (false, x)) : mCall 2 sem__law_one_of [] a ρ Q E := by
  rw [call_un (n := 2) ha rfl]
  exact one_of_sem h0 hl q
end FbL
end

section
set_option Elab.async false
set_option linter.all false
set_option maxRecDepth 100000
set_option maxHeartbeats 1000000
namespace FbL
open PySem PySem.Spec PyProof.Rows L2 Fb
def dr0 : En → WS := (mSet [0, 1] 4 (mSlice (mDe (mCall 2 sem__law_mixed [] (mCons (mVar 0) (mCons (mDe (mLst (mCons (mC (.str "ann")) (mCons (mC (.str "bob")) (mCons (mC (.str "cyd")) (mCons (mC (.str "d")) (mCons (mC (.str "eve")) (mCons (mC (.str "zz")) (mCons (mC (.str "meet")) mNil))))))))) mNil)))) mNoPart (mPart (mDe (mOpR gAdd (mC (.int 2)) (mDe (mCall 2 sem__law_choose [] (mCons (mVar 0) (mCons (mOp gSub (mVar 1) (mC (.int 1))) mNil)))))))))
def dr1 : En → WS := (mSet [] 5 (mLst mNil))
def dr2B0 : En → WS := (mSet [0] 8 (mCall 2 sem__law_choose [] (mCons (mVar 0) (mCons (mC (.int 6)) mNil))))
def dr2B1 : En → WS := (mSet [8, 6, 2, 0] 9 (mDr (mIfE (mAnd (mTest (mOp gLt (mVar 6) (mVar 2))) (mTest (mOp gGt (mDe (mCall 2 sem__law_choose [] (mCons (mVar 0) (mCons (mC (.int 5)) mNil)))) (mC (.int 0))))) (mTup (mCons (mVar 8) (mCons (mDe (mOpR gAdd (mVar 8) (mDe (mCall 2 sem__law_choose [] (mCons (mVar 0) (mCons (mC (.int 4)) mNil)))))) mNil))) (mC .non))))
def dr2B2 : En → WS := (mApp [7, 9, 0] 5 (mTup (mCons (mVar 7) (mCons (mDe (mOpR gAdd (mC (.int 1)) (mDe (mCall 2 sem__law_one_of [] (mCons (mVar 0) (mCons (mDe (mLst (mCons (mC (.int 0)) (mCons (mC (.int 0)) (mCons (mC (.int 1)) (mCons (mC (.int 2)) mNil)))))) mNil)))))) (mCons (mDe (mCall 2 sem__law_choose [] (mCons (mVar 0) (mCons (mC (.int 4)) mNil)))) (mCons (mVar 9) mNil))))))
def dr2B : En → WS := mSeq dr2B0 (mSeq dr2B1 dr2B2)
def dr2 : En → WS := (mFor [4] (mEnum (mCons (mVar 4) mNil)) (pTup 2 (pCons (pName 6) (pCons (pName 7) pNil))) dr2B)
def dr3 : En → WS := (mSet [] 10 (mLst mNil))
def dr4B0 : En → WS := (mSet [0, 4] 12 (mSlice (mDe (mCall 2 sem__law_mixed [] (mCons (mVar 0) (mCons (mVar 4) mNil)))) mNoPart (mPart (mC (.int 2)))))
def dr4B1 : En → WS := (mApp [0, 12] 10 (mTup (mCons (mDe (mCall 2 sem__law_choose [] (mCons (mVar 0) (mCons (mC (.int 12)) mNil)))) (mCons (mOp gIx (mVar 12) (mC (.int 0))) (mCons (mOp gIx (mVar 12) (mC (.int 1))) mNil)))))
def dr4B : En → WS := mSeq dr4B0 dr4B1
def dr4 : En → WS := (mFor [0, 3] (mRng1 (mCons (mDe (mCall 2 sem__law_choose [] (mCons (mVar 0) (mCons (mDe (mOpR gAdd (mVar 3) (mC (.int 1)))) mNil)))) mNil)) (pName 11) dr4B)
def dr5 : En → WS := (mRet (mLst (mCons (mDe (mCall 2 sem__law_mixed [] (mCons (mVar 0) (mCons (mVar 5) mNil)))) (mCons (mVar 10) mNil))))
def dr : En → WS := mSeq dr0 (mSeq dr1 (mSeq dr2 (mSeq dr3 (mSeq dr4 dr5))))
theorem dr_sem : sem__law_drawn = runBody 13 dr := rfl
def seven : List Str := ["ann", "bob", "cyd", "d", "eve", "zz", "meet"]
structure DrPer (p : Per) : Prop where
  w1 : 1 ≤ p.w
  w3 : p.w ≤ 3
  s0 : 0 ≤ p.s
  s3 : p.s ≤ 3
  sp : ∀ lo hi, p.sp = some (lo, hi) → 0 ≤ lo ∧ lo ≤ 5 ∧ lo ≤ hi ∧ hi ≤ lo + 3
structure Drawn (P : Pl) : Prop where
  two : 2 ≤ P.ps.length
  most : P.ps.length ≤ 7
  per : ∀ p ∈ P.ps, DrPer p
  nd : P.names.Nodup
  nm : ∀ n ∈ P.names, n ∈ seven
  met : ∀ m ∈ P.ms, 0 ≤ m.day ∧ m.day ≤ 11 ∧ m.one ≠ m.other ∧ m.one ∈ P.names ∧ m.other ∈ P.names
  few : P.ms.length ≤ 100
theorem seven_ok : ∀ n ∈ seven, nameOk n = true := by decide
theorem Drawn.ok {P : Pl} (h : Drawn P) : P.Ok := by
  refine ⟨fun e => ?_, small (Nat.le_trans h.most (by decide)), small (Nat.le_trans h.few (by decide)), fun p hp => ?_, h.nd, fun m hm => ?_⟩
  · have := h.two; rw [e] at this; exact absurd this (by decide)
  · have d := h.per p hp
    unfold perOk
    rw [seven_ok _ (h.nm _ (List.mem_map_of_mem hp)), decide_eq_true d.w1, decide_eq_true d.s0]
    rcases e : p.sp with _ | ⟨lo, hi⟩
    · rfl
    · obtain ⟨h1, h2, h3, h4⟩ := d.sp lo hi e
      show (true && (true && (true && (decide (0 ≤ lo) && decide (0 ≤ hi) && decide (lo ≤ hi))))) = true
      rw [decide_eq_true h1, decide_eq_true (show (0 : Int) ≤ hi by omega), decide_eq_true h3]; rfl
  · obtain ⟨h0, h1, h2, h3, h4⟩ := h.met m hm
    unfold metOk
    have a1 : (P.names.any fun y => y == m.one) = true := List.any_eq_true.mpr ⟨_, h3, beq_self_eq_true _⟩
    have a2 : (P.names.any fun y => y == m.other) = true := List.any_eq_true.mpr ⟨_, h4, beq_self_eq_true _⟩
    have a3 : (m.one == m.other) = false := beq_eq_false_iff_ne.mpr h2
    show (decide (0 ≤ m.day) && (nameOk m.one && nameOk m.other && !(m.one == m.other) && ((P.names.any fun y => y == m.one) && (P.names.any fun y => y == m.other)))) = true
    rw [a1, a2, a3, decide_eq_true h0, seven_ok _ (h.nm _ h3), seven_ok _ (h.nm _ h4)]; rfl
def toldD (P : Pl) : D := .lst [.lst (P.ps.map perD), .lst (P.ms.map metD)]
def drE (mn be me : Int) (cd : List Str) (cr : List Per) (a b c e : Option (Bool × D)) : En := [some (false, .box 1), some (false, .int mn), some (false, .int be), some (false, .int me), some (false, .lst (cd.map D.str)), some (true, .lst (cr.map perD)), a, b, c, e, none, none, none]
theorem testrun {m : Ro → W Ex D} {ρ : Ro} {b : Bool} (h : m ρ = W.ret (.bl b)) {Q : Bool → Prop} {E : Ex → Prop} (q : Q b) : mTest m ρ Q E := by rw [test_eq b h]; exact q
theorem oprun {g : D → D → W Ex D} {m n : Ro → W Ex D} {ρ : Ro} (b : D) (hn : n ρ = W.ret b) {Q : D → Prop} {E : Ex → Prop} (h : m ρ (fun a => W.calm (g a b) Q E) E) : mOp g m n ρ Q E := by
  show m ρ (fun a => W.bind (n ρ) (fun b => W.calm (g a b)) Q E) E
  rw [hn]; exact h
theorem ifT {ε α : Type} {m n : W ε α} {Q : α → Prop} {E : ε → Prop} (h : m Q E) : (if true = true then m else n) Q E := h
theorem setrun {fz : List Nat} {i : Nat} {m : Ro → W Ex (Bool × D)} {ρ : En} {Q : Fl × En → Prop} {E : Ex × En → Prop} (h : m (see fz ρ) (fun r => Q (.nx, asg fz i r ρ)) (fun x => E (x, ρ))) : mSet fz i m ρ Q E := h
theorem asg_of {fz : List Nat} {i : Nat} {r : Bool × D} {ρ ρ' : En} (h : (if r.1 then immTop r.2 else imm r.2) = true) (e : ρ.set i (some r) = ρ') {P : Fl × En → Prop} (q : P (.nx, ρ')) : P (.nx, asg fz i r ρ) := by
  rw [asg_imm h, e]; exact q
variable {mn be me : Int} {cd : List Str} {cr : List Per} {Q : Fl × En → Prop} {E : Ex × En → Prop}
theorem dr2B0_run {a b c e : Option (Bool × D)} (q : ∀ r : Int, 0 ≤ r → r < 6 → Q (.nx, drE mn be me cd cr a b (some (false, .int r)) e)) : dr2B0 (drE mn be me cd cr a b c e) Q E :=
  setrun (choose_run (m := 6) ⟨by decide, by decide⟩ rfl fun r h0 h1 => asg_of (r := (false, .int r)) rfl rfl (q r h0 h1))
theorem imm_sp (s : Option (Int × Int)) : imm (spD s) = true := by rcases s with _ | ⟨_, _⟩ <;> rfl
theorem dr2B1_run {k r : Int} {n : Str} {e : Option (Bool × D)} (h0 : 0 ≤ r) (h1 : r < 6) (q : ∀ s : Option (Int × Int), (∀ lo hi, s = some (lo, hi) → 0 ≤ lo ∧ lo ≤ 5 ∧ lo ≤ hi ∧ hi ≤ lo + 3) → Q (.nx, drE mn be me cd cr (some (false, .int k)) (some (false, .str n)) (some (false, .int r)) (some (false, spD s)))) :
    dr2B1 (drE mn be me cd cr (some (false, .int k)) (some (false, .str n)) (some (false, .int r)) e) Q E := by
  have no : Q (.nx, asg [8, 6, 2, 0] 9 (false, D.non) (drE mn be me cd cr (some (false, .int k)) (some (false, .str n)) (some (false, .int r)) e)) :=
    asg_of (r := (false, .non)) rfl rfl (q none fun lo hi h => nomatch h)
  refine setrun (bindrun (bindrun (bindrun (testrun (b := decide (k < be)) rfl ?_))))
  cases decide (k < be)
  · exact no
  · refine bindrun (oprun (.int 0) rfl (bindrun (choose_run (m := 5) ⟨by decide, by decide⟩ rfl fun t t0 t1 => retrun (calmrun (E := fun _ => False) (show gGt (.int t) (.int 0) = W.ret (.bl (decide (0 < t))) from rfl) ?_))))
    cases decide (0 < t)
    · exact no
    · refine (show (mTup (mCons (mVar 8) (mCons (mDe (mOpR gAdd (mVar 8) (mDe (mCall 2 sem__law_choose [] (mCons (mVar 0) (mCons (mC (.int 4)) mNil)))))) mNil))) (see [8, 6, 2, 0] (drE mn be me cd cr (some (false, .int k)) (some (false, .str n)) (some (false, .int r)) e)) (fun d => Q (.nx, asg [8, 6, 2, 0] 9 (false, d) (drE mn be me cd cr (some (false, .int k)) (some (false, .str n)) (some (false, .int r)) e))) (fun x => E (x, drE mn be me cd cr (some (false, .int k)) (some (false, .str n)) (some (false, .int r)) e)) → _ from id) (bindrun (bindrun (varrun (i := 8) (d := .int r) rfl (bindrun (bindrun (bindrun (bindrun (varrun (i := 8) (d := .int r) rfl (bindrun (bindrun (choose_run (m := 4) ⟨by decide, by decide⟩ rfl fun u u0 u1 => ?_)))))))))))
      exact asg_of (r := (false, spD (some (r, r + u)))) rfl rfl (q (some (r, r + u)) fun lo hi h => by cases h; omega)
theorem apprun {fz : List Nat} {i : Nat} {m : Ro → W Ex D} {ρ : En} {ds : List D} {Q : Fl × En → Prop} {E : Ex × En → Prop} (h0 : ρ[i]? = some (some (true, .lst ds))) (hl : ds.length < sizeLine) (h : m (see fz ρ) (fun d => (W.got (tak fz i d ρ) fun ρ' => W.ret (Fl.nx, ρ'.set i (some (true, .lst (ds ++ [d]))))) Q E) (fun x => E (x, ρ))) : mApp fz i m ρ Q E := by
  have : mApp fz i m ρ = W.bind (up ρ (m (see fz ρ))) fun d => W.got (tak fz i d ρ) fun ρ' => W.ret (Fl.nx, ρ'.set i (some (true, .lst (ds ++ [d])))) := by
    unfold mApp
    rw [h0]
    show (W.bind (up ρ (m (see fz ρ))) fun d => W.got (tak fz i d ρ) fun ρ' => if ds.length < sizeLine then W.ret (Fl.nx, ρ'.set i (some (true, D.lst (ds ++ [d])))) else W.fail) = _
    congr; funext d; congr; funext ρ'
    rw [if_pos hl]
  rw [this]
  exact h
theorem tak_of {fz : List Nat} {i : Nat} {d : D} {ds : List D} {ρ ρ' : En} (h : imm d = true) (e : ρ.set i (some (true, .lst (ds ++ [d]))) = ρ') {P : Fl × En → Prop} {E : Ex × En → Prop} (q : P (.nx, ρ')) : (W.got (tak fz i d ρ) fun ρ' => W.ret (Fl.nx, ρ'.set i (some (true, .lst (ds ++ [d]))))) P E := by
  unfold tak
  rw [if_pos h]
  show P (Fl.nx, ρ.set i (some (true, .lst (ds ++ [d]))))
  rw [e]; exact q
theorem imm_per (p : Per) : imm (perD p) = true := by
  show (true && (true && (true && (imm (spD p.sp) && true)))) = true
  rw [imm_sp]; rfl
theorem dr2B2_run {k r : Int} {n : Str} {s : Option (Int × Int)} (hl : cr.length < 1000) (hs : ∀ lo hi, s = some (lo, hi) → 0 ≤ lo ∧ lo ≤ 5 ∧ lo ≤ hi ∧ hi ≤ lo + 3) (q : ∀ p : Per, p.nm = n → DrPer p → Q (.nx, drE mn be me cd (cr ++ [p]) (some (false, .int k)) (some (false, .str n)) (some (false, .int r)) (some (false, spD s)))) :
    dr2B2 (drE mn be me cd cr (some (false, .int k)) (some (false, .str n)) (some (false, .int r)) (some (false, spD s))) Q E := by
  refine apprun (ds := cr.map perD) rfl (by rw [List.length_map]; exact Nat.lt_of_lt_of_le hl sizeLine_ge) ?_
  refine bindrun (bindrun (varrun (i := 7) (d := .str n) rfl (bindrun (bindrun (bindrun (bindrun (bindrun (one_of_run (l := [.int 0, .int 0, .int 1, .int 2]) (by simp) (by simp) ?_ fun x hx => ?_))))))))
  · exact cons_eq rfl (cons_eq (de_eq (lst_eq rfl (small (by simp)))) rfl)
  · have : ∃ w : Int, x = .int w ∧ 0 ≤ w ∧ w ≤ 2 := by
      simp only [List.mem_cons, List.not_mem_nil, or_false] at hx
      rcases hx with rfl | rfl | rfl | rfl <;> exact ⟨_, rfl, by decide, by decide⟩
    obtain ⟨w, rfl, w0, w2⟩ := this
    refine bindrun (bindrun (choose_run (m := 4) ⟨by decide, by decide⟩ rfl fun u u0 u1 => ?_))
    refine tak_of (d := perD ⟨n, 1 + w, u, s⟩) (imm_per _) ?_ (q ⟨n, 1 + w, u, s⟩ rfl ⟨by show 1 ≤ 1 + w; omega, by show 1 + w ≤ 3; omega, u0, by show u ≤ 3; omega, hs⟩)
    unfold drE
    rw [List.map_append]; rfl
end FbL
end

section
set_option Elab.async false
set_option linter.all false
set_option maxRecDepth 100000
set_option maxHeartbeats 1000000
namespace FbL
open PySem PySem.Spec PyProof.Rows L2 Fb
theorem forrun {p : D → Option (List (Nat × D))} {b : En → WS} {d : D} {ds : List D} {ρ : En} {bs : List (Nat × D)} (hp : p d = some bs) {Q : Fl × En → Prop} {E : Ex × En → Prop} (h : b (setE ρ bs) (fun q => (match q with
      | (.nx, ρ') => forN p b ds ρ'
      | (.ct, ρ') => forN p b ds ρ'
      | (.bk, ρ') => W.ret (.nx, ρ')
      | (.rt r, ρ') => W.ret (.rt r, ρ')) Q E) E) : forN p b (d :: ds) ρ Q E := by
  unfold forN
  rw [hp]
  exact h
theorem slice_to {m : Ro → W Ex D} {h : Ro → W Ex (Option Int)} {ρ : Ro} (k : Int) (hk : h ρ = W.ret (some k)) {Q : Bool × D → Prop} {E : Ex → Prop} (q : m ρ (fun d => gSl d none (some k) Q E) E) : mSlice m mNoPart h ρ Q E := by
  have : mSlice m mNoPart h ρ = W.bind (m ρ) fun d => gSl d none (some k) := by
    show W.bind (m ρ) (fun d => W.bind (W.ret none) fun lo => W.bind (h ρ) fun hi => gSl d lo hi) = _
    rw [hk]; rfl
  rw [this]; exact q
theorem asg_then {fz : List Nat} {i : Nat} {r : Bool × D} {ρ ρ' : En} {n : En → WS} (h : (if r.1 then immTop r.2 else imm r.2) = true) (e : ρ.set i (some r) = ρ') {Q : Fl × En → Prop} {E : Ex × En → Prop} (q : n ρ' Q E) : andThen n (.nx, asg fz i r ρ) Q E := by
  rw [asg_imm h, e]; exact q
theorem szrun {α : Type} {l : List D} {m : W Ex α} (h : l.length ≤ sizeLine) {Q : α → Prop} {E : Ex → Prop} (q : m Q E) : szd l m Q E := by
  unfold szd
  rw [if_pos h]; exact q
theorem cut_to (xs : List D) {h : Int} (h0 : 0 ≤ h)  : Fb.cutD xs none (some h) = xs.take h.toNat := by
  have : h = (h.toNat : Int) := by omega
  unfold Fb.cutD
  rw [this, HT.sIx_nat, HT.sIx_none, List.drop_zero, Nat.sub_zero, Int.toNat_natCast]
  rcases Nat.le_total h.toNat xs.length with z | z
  · rw [Nat.min_eq_left z]
  · rw [Nat.min_eq_right z, List.take_of_length_le (Nat.le_refl _), List.take_of_length_le z]
variable {mn be me : Int} {cd : List Str}
theorem dr_loop1 {Q : Fl × En → Prop} {E : Ex × En → Prop} : ∀ (l : List Str) (k : Nat) (cr : List Per) (a b c e : Option (Bool × D)), cr.length + l.length ≤ 7 → (∀ p ∈ cr, DrPer p) → (∀ (cr' : List Per) a b c e, cr'.map (·.nm) = cr.map (·.nm) ++ l → (∀ p ∈ cr', DrPer p) → Q (.nx, drE mn be me cd cr' a b c e)) →
    forN (pTup 2 (pCons (pName 6) (pCons (pName 7) pNil))) dr2B (enD k (l.map D.str)) (drE mn be me cd cr a b c e) Q E
  | [], k, cr, a, b, c, e, hl, hc, q => q cr a b c e (List.append_nil _).symm hc
  | n :: l, k, cr, a, b, c, e, hl, hc, q => by
    rw [List.length_cons] at hl
    refine forrun (bs := [(6, .int k), (7, .str n)]) rfl ?_
    refine bindrun (dr2B0_run (mn := mn) (be := be) (me := me) (cd := cd) (cr := cr) (a := some (false, .int k)) (b := some (false, .str n)) fun r h0 h1 => ?_)
    refine bindrun (dr2B1_run (mn := mn) (be := be) (me := me) (cd := cd) (cr := cr) (k := k) (n := n) h0 h1 fun s hs => ?_)
    refine dr2B2_run (mn := mn) (be := be) (me := me) (cd := cd) (cr := cr) (k := k) (n := n) (by omega) hs fun p hn hp => ?_
    refine dr_loop1 l (k + 1) (cr ++ [p]) _ _ _ _ (by rw [List.length_append]; simp; omega) (fun z hz => ?_) fun cr' a b c e h1 h2 => q cr' a b c e ?_ h2
    · rcases List.mem_append.mp hz with hz | hz
      · exact hc z hz
      · cases List.mem_singleton.mp hz; exact hp
    · rw [h1, List.map_append, List.append_assoc, ← hn]; rfl
def drF (mn be me : Int) (cd : List Str) (cr : List Per) (a b c e : Option (Bool × D)) (fd : List Met) (g h : Option (Bool × D)) : En := [some (false, .box 1), some (false, .int mn), some (false, .int be), some (false, .int me), some (false, .lst (cd.map D.str)), some (true, .lst (cr.map perD)), a, b, c, e, some (true, .lst (fd.map metD)), g, h]
theorem imm_met (m : Met) : imm (metD m) = true := rfl
variable {cr : List Per} {a b c e : Option (Bool × D)}
theorem drF_see {fz : List Nat} {i : Nat} {d : D} (f : Bool) (fd : List Met) (g h : Option (Bool × D)) : True := trivial
def MetIn (ns : List Str) (m : Met) : Prop := 0 ≤ m.day ∧ m.day ≤ 11 ∧ m.one ≠ m.other ∧ m.one ∈ ns ∧ m.other ∈ ns
theorem seef {a b c e : Option (Bool × D)} {cr : List Per} {fd : List Met} {g : Option (Bool × D)} {x : D} {fl : Bool} (hf : fl = true) :
    (see [0, 12] (drF mn be me cd cr a b c e fd g (some (fl, x))))[12]? = some (some x) ∧ (see [0, 12] (drF mn be me cd cr a b c e fd g (some (fl, x))))[0]? = some (some (.box 1)) := by
  subst hf
  rcases a with _ | ⟨_ | _, _⟩ <;> rcases b with _ | ⟨_ | _, _⟩ <;> rcases c with _ | ⟨_ | _, _⟩ <;> rcases e with _ | ⟨_ | _, _⟩ <;> rcases g with _ | ⟨_ | _, _⟩ <;> exact ⟨rfl, rfl⟩
theorem dr_loop2 {cr : List Per} {Q : Fl × En → Prop} {E : Ex × En → Prop} (hc2 : 2 ≤ cd.length) (hc7 : cd.length ≤ 1000) (nd : cd.Nodup) : ∀ (is : List D) (fd : List Met) (g h : Option (Bool × D)), fd.length + is.length ≤ 100 → (∀ m ∈ fd, MetIn cd m) → (∀ fd' g h, (∀ m ∈ fd', MetIn cd m) → fd'.length ≤ 100 → Q (.nx, drF mn be me cd cr a b c e fd' g h)) →
    forN (pName 11) dr4B is (drF mn be me cd cr a b c e fd g h) Q E
  | [], fd, g, h, hl, hf, q => q fd g h hf (by simpa using hl)
  | i :: is, fd, g, h, hl, hf, q => by
    rw [List.length_cons] at hl
    refine forrun (bs := [(11, i)]) rfl ?_
    show (mSeq dr4B0 dr4B1) (drF mn be me cd cr a b c e fd (some (false, i)) h) _ _
    refine bindrun (setrun (slice_to 2 rfl (bindrun (mixed_run (l := cd.map D.str) (by rw [List.length_map]; exact hc7) (imms_strs _) rfl fun k hk => ?_))))
    obtain ⟨k', hp, rfl⟩ := perm_map D.str unS (fun _ => rfl) hk
    match k', hp with
    | [], hp => exact absurd hp.length_eq (by simp; omega)
    | [_], hp => exact absurd hp.length_eq (by simp; omega)
    | x :: y :: t, hp =>
      have ct : Fb.cutD ((x :: y :: t).map D.str) none (some 2) = [.str x, .str y] := cut_to _ (by decide)
      have e1 : gSl (.lst ((x :: y :: t).map D.str)) none (some 2) = W.ret (true, .lst [.str x, .str y]) := by
        show W.ret (true, D.lst (Fb.cutD _ none (some 2))) = _
        rw [ct]
      refine retrun (eqrun e1 (asg_then (r := (true, .lst [.str x, .str y])) (ρ' := drF mn be me cd cr a b c e fd (some (false, i)) (some (true, .lst [.str x, .str y]))) rfl rfl ?_))
      obtain ⟨s12, s0⟩ := seef (mn := mn) (be := be) (me := me) (cd := cd) (cr := cr) (a := a) (b := b) (c := c) (e := e) (fd := fd) (g := some (false, i)) (x := .lst [.str x, .str y]) (fl := true) rfl
      show dr4B1 (drF mn be me cd cr a b c e fd (some (false, i)) (some (true, .lst [.str x, .str y]))) _ _
      refine apprun (ds := fd.map metD) rfl (by rw [List.length_map]; exact Nat.lt_of_lt_of_le (show fd.length < 1000 by omega) sizeLine_ge) ?_
      refine bindrun (bindrun (bindrun (choose_run (m := 12) ⟨by decide, by decide⟩ (cons_eq (by unfold mVar; rw [s0]; rfl) rfl) fun u u0 u1 => ?_)))
      have ex : ∀ (j : Int) (z : D), gIx (.lst [.str x, .str y]) (.int j) = W.ret z → mOp gIx (mVar 12) (mC (.int j)) (see [0, 12] (drF mn be me cd cr a b c e fd (some (false, i)) (some (true, .lst [.str x, .str y])))) = W.ret z := fun j z hz => op_eq (by unfold mVar; rw [s12]; rfl) rfl hz
      have er : (mCons (mOp gIx (mVar 12) (mC (.int 0))) (mCons (mOp gIx (mVar 12) (mC (.int 1))) mNil)) (see [0, 12] (drF mn be me cd cr a b c e fd (some (false, i)) (some (true, .lst [.str x, .str y])))) = W.ret [.str x, .str y] := cons_eq (ex 0 _ rfl) (cons_eq (ex 1 _ rfl) rfl)
      refine retrun (bindrun (eqrun er (retrun ?_)))
      have hm : MetIn cd ⟨u, x, y⟩ := by
        have ndk := hp.nodup_iff.mpr nd
        refine ⟨u0, by show u ≤ 11; omega, fun z => ?_, hp.mem_iff.mp (by simp), hp.mem_iff.mp (by simp)⟩
        have z : x = y := z
        rw [z] at ndk
        simp at ndk
      refine szrun (small (by simp)) (retrun ?_)
      refine tak_of (d := metD ⟨u, x, y⟩) (ds := fd.map metD) (ρ := drF mn be me cd cr a b c e fd (some (false, i)) (some (true, .lst [.str x, .str y]))) (ρ' := drF mn be me cd cr a b c e (fd ++ [⟨u, x, y⟩]) (some (false, i)) (some (true, .lst [.str x, .str y]))) rfl ?_ ?_
      · unfold drF
        rw [List.map_append]; rfl
      · refine dr_loop2 hc2 hc7 nd is (fd ++ [⟨u, x, y⟩]) _ _ (by rw [List.length_append]; simp; omega) (fun z hz => ?_) q
        rcases List.mem_append.mp hz with hz | hz
        · exact hf z hz
        · cases List.mem_singleton.mp hz; exact hm
end FbL
end

section
set_option Elab.async false
set_option linter.all false
set_option maxRecDepth 100000
set_option maxHeartbeats 1000000
namespace FbL
open PySem PySem.Spec PyProof.Rows L2 Fb
theorem frzF {mn be me : Int} {cd : List Str} {cr : List Per} {a b c e : Option (Bool × D)} {fd : List Met} : frz [0, 3] (drF mn be me cd cr a b c e fd none none) = drF mn be me cd cr a b c e fd none none := by
  rcases a with _ | ⟨_ | _, _⟩ <;> rcases b with _ | ⟨_ | _, _⟩ <;> rcases c with _ | ⟨_ | _, _⟩ <;> rcases e with _ | ⟨_ | _, _⟩ <;> rfl
theorem rof {mn be me : Int} {cd : List Str} {cr : List Per} {a b c e : Option (Bool × D)} {fd : List Met} {g h : Option (Bool × D)} : (ro (drF mn be me cd cr a b c e fd g h))[10]? = some (some (.lst (fd.map metD))) := by
  rcases a with _ | ⟨_, _⟩ <;> rcases b with _ | ⟨_, _⟩ <;> rcases c with _ | ⟨_, _⟩ <;> rcases e with _ | ⟨_, _⟩ <;> rfl
theorem seef3 {mn be me : Int} {cd : List Str} {cr : List Per} {a b c e : Option (Bool × D)} {fd : List Met} : (mCons (mVar 0) (mCons (mDe (mOpR gAdd (mVar 3) (mC (.int 1)))) mNil)) (see [0, 3] (drF mn be me cd cr a b c e fd none none)) = W.ret [.box 1, .int (me + 1)] := rfl
def unPer : D → Per
  | .tup [.str n, .int w, .int s, .tup [.int a, .int b]] => ⟨n, w, s, some (a, b)⟩
  | .tup [.str n, .int w, .int s, .non] => ⟨n, w, s, none⟩
  | _ => ⟨"", 0, 0, none⟩
theorem unPer_per (p : Per) : unPer (perD p) = p := by
  obtain ⟨n, w, s, _ | ⟨a, b⟩⟩ := p <;> rfl
theorem seqx {m n : En → WS} {ρ ρ' : En} (h : m ρ = W.ret (.nx, ρ')) {Q : Fl × En → Prop} {E : Ex × En → Prop} (q : n ρ' Q E) : mSeq m n ρ Q E := by rw [seq_nx h]; exact q
theorem rng_run {m : Ro → W Ex (List D)} {ρ : Ro} {Q : List D → Prop} {E : Ex → Prop} (h : m ρ (fun ds => rng1D ds Q E) E) : mRng1 m ρ Q E := h
theorem for_run {fz : List Nat} {m : Ro → W Ex (List D)} {p : D → Option (List (Nat × D))} {b : En → WS} {ρ : En} {Q : Fl × En → Prop} {E : Ex × En → Prop} (h : m (see fz ρ) (fun ds => forN p b ds (frz fz ρ) Q E) (fun x => E (x, ρ))) : mFor fz m p b ρ Q E := h
theorem forx {fz : List Nat} {m : Ro → W Ex (List D)} {p : D → Option (List (Nat × D))} {b : En → WS} {ρ ρ' : En} {ds : List D} (h : m (see fz ρ) = W.ret ds) (e : frz fz ρ = ρ') {Q : Fl × En → Prop} {E : Ex × En → Prop} (q : forN p b ds ρ' Q E) : mFor fz m p b ρ Q E := by
  rw [for_eq h, e]; exact q
theorem imms_of {α : Type} (f : α → D) (hf : ∀ a, imm (f a) = true) : ∀ l : List α, imms (l.map f) = true
  | [] => rfl
  | a :: l => by
    show (imm (f a) && imms (l.map f)) = true
    rw [hf a, imms_of f hf l]; rfl
theorem drawn_sem {mn be me : Int} (h1 : 2 ≤ mn) (h2 : mn ≤ 100) (h3 : 0 ≤ me) (h4 : me ≤ 99) (Q : Bool × D → Prop) (E : Ex → Prop) (q : ∀ P, Drawn P → Q (true, toldD P)) : sem__law_drawn [.box 1, .int mn, .int be, .int me] Q E := by
  rw [dr_sem]
  show (mSeq dr0 (mSeq dr1 (mSeq dr2 (mSeq dr3 (mSeq dr4 dr5))))) (initEn 13 [.box 1, .int mn, .int be, .int me]) _ _
  refine bindrun (setrun (bindrun (bindrun (mixed_run (l := seven.map D.str) (by simp [seven]) (imms_strs _) ?_ fun k hk => retrun (bindrun (retrun (bindrun (bindrun (bindrun (bindrun (retrun (bindrun (bindrun (choose_run (m := mn - 1) ⟨by omega, by omega⟩ rfl fun r r0 r1 => ?_))))))))))))))
  · exact cons_eq rfl (cons_eq (de_eq (lst_eq rfl (small (by simp [seven])))) rfl)
  obtain ⟨k', hp, rfl⟩ := perm_map D.str unS (fun _ => rfl) hk
  have e1 : gSl (.lst (k'.map D.str)) none (some (2 + r)) = W.ret (true, .lst ((k'.take (2 + r).toNat).map D.str)) := by
    show W.ret (true, D.lst (Fb.cutD _ none (some (2 + r)))) = _
    rw [cut_to _ (by omega), List.map_take]
  have hk7 : k'.length = 7 := hp.length_eq
  have ndk : k'.Nodup := hp.nodup_iff.mpr (by decide)
  obtain ⟨cd, hcd⟩ : ∃ cd, cd = k'.take (2 + r).toNat := ⟨_, rfl⟩
  have cl2 : 2 ≤ cd.length := by rw [hcd, List.length_take, hk7]; omega
  have cl7 : cd.length ≤ 7 := by rw [hcd, List.length_take, hk7]; omega
  have cnd : cd.Nodup := hcd ▸ ndk.sublist (List.take_sublist _ _)
  have cin : ∀ n ∈ cd, n ∈ seven := fun n hn => hp.mem_iff.mp (List.mem_of_mem_take (hcd ▸ hn))
  rw [← hcd] at e1
  refine retrun (eqrun (show gAdd (.int 2) (.int r) = W.ret (false, .int (2 + r)) from rfl) (retrun (retrun (eqrun e1 (asg_then (r := (true, .lst (cd.map D.str))) (ρ' := [some (false, .box 1), some (false, .int mn), some (false, .int be), some (false, .int me), some (true, .lst (cd.map D.str)), none, none, none, none, none, none, none, none]) (imms_strs _) rfl ?_)))))
  refine seqx (ρ' := [some (false, .box 1), some (false, .int mn), some (false, .int be), some (false, .int me), some (true, .lst (cd.map D.str)), some (true, .lst []), none, none, none, none, none, none, none]) (set_eq (r := (true, .lst [])) rfl (asg_imm rfl)) ?_
  refine bindrun (forx (ds := enD 0 (cd.map D.str)) (ρ' := drE mn be me cd [] none none none none) rfl rfl ?_)
  refine dr_loop1 (cd := cd) cd 0 [] none none none none (by simpa using cl7) (fun p hp => nomatch hp) fun cr a b c e e1 hper => ?_
  rw [List.map_nil, List.nil_append] at e1
  refine seqx (ρ' := drF mn be me cd cr a b c e [] none none) (set_eq (r := (true, .lst [])) rfl (asg_imm rfl)) ?_
  refine bindrun (for_run (bindrun (bindrun (bindrun (choose_run (m := me + 1) ⟨by omega, by omega⟩ seef3 fun u u0 u1 => retrun (bindrun (retrun (retrun ?_))))))))
  have er : rng1D [.int u] = W.ret (rngD 0 u.toNat) := by
    have : u = (u.toNat : Int) := by omega
    rw [this, rng1_eq (by omega), Int.toNat_natCast]
  refine eqrun er ?_
  rw [frzF]
  refine dr_loop2 cl2 (by omega) cnd (rngD 0 u.toNat) [] none none (by rw [rngD_len]; simp; omega) (fun m hm => nomatch hm) fun fd g h hm hf => ?_
  have e10 : (mCons (mVar 10) mNil) (ro (drF mn be me cd cr a b c e fd g h)) = W.ret [.lst (fd.map metD)] := cons_eq (by unfold mVar; rw [rof]; rfl) rfl
  show dr5 (drF mn be me cd cr a b c e fd g h) _ _
  unfold dr5
  refine bindrun (uprun (bindrun (bindrun (bindrun (mixed_run (l := cr.map perD) ?_ (imms_of perD imm_per cr) rfl fun k2 hk2 => retrun (bindrun (eqrun e10 (retrun (szrun ?_ (retrun ?_))))))))))
  · rw [List.length_map, ← List.length_map (as := cr) (f := (·.nm)), e1]; omega
  · exact small (by show 2 ≤ 1000; decide)
  obtain ⟨ps, hps, rfl⟩ := perm_map perD unPer unPer_per hk2
  have hnm : (ps.map (·.nm)).Perm cd := e1 ▸ hps.map (·.nm)
  refine q ⟨ps, fd⟩ ⟨?_, ?_, fun p hp => hper p (hps.mem_iff.mp hp), hnm.nodup_iff.mpr cnd, fun n hn => cin n (hnm.mem_iff.mp hn), fun m h => ?_, hf⟩
  · show 2 ≤ ps.length
    rw [← List.length_map (as := ps) (f := (·.nm)), hnm.length_eq]; exact cl2
  · show ps.length ≤ 7
    rw [← List.length_map (as := ps) (f := (·.nm)), hnm.length_eq]; exact cl7
  · obtain ⟨z0, z1, z2, z3, z4⟩ := hm m h
    exact ⟨z0, z1, z2, hnm.mem_iff.mpr z3, hnm.mem_iff.mpr z4⟩
end FbL
end

section
set_option Elab.async false
set_option linter.all false
set_option maxRecDepth 100000
set_option maxHeartbeats 1000000
namespace FbL
open PySem PySem.Spec PyProof.Rows L2 Fb TL
def ni0 : En → WS := (mIf (mOr (mNot (mTest (mChain gLe gLe (mC (.int 1)) (mDe (mBlt (g1 lenD) (mCons (mVar 0) mNil))) (mC (.int 19))))) (mNot (mTest (mDe (mBlt (g1 allD) (mCons (mDe (mLc (mWalk (mVar 0)) [1] (pName 1) mYes (mOp (gIn false) (mVar 1) (mC (.str "0123456789"))))) mNil)))))) (mRet (mDr (mC .non))) mSkip)
def ni1 : En → WS := (mRet (mIfE (mAnd (mTest (mOp (gEq false) (mOp gIx (mVar 0) (mC (.int 0))) (mC (.str "0")))) (mTest (mOp gGt (mDe (mBlt (g1 lenD) (mCons (mVar 0) mNil))) (mC (.int 1))))) (mDr (mC .non)) (mBlt (g1 Fb.intD) (mCons (mVar 0) mNil))))
def ni : En → WS := mSeq ni0 ni1
theorem ni_sem : sem_number_in = runBody 2 ni := rfl
def pi0 : En → WS := (mIf (mOr (mTest (mOp (gIn true) (mDe (mBlt (g1 lenD) (mCons (mVar 0) mNil))) (mTup (mCons (mC (.int 5)) (mCons (mC (.int 6)) mNil))))) (mOr (mTest (mOp (gEq true) (mOp gIx (mVar 0) (mC (.int 0))) (mC (.str "person")))) (mNot (mTest (mDe (mCall 1 sem_is_name [] (mCons (mOp gIx (mVar 0) (mC (.int 1))) mNil))))))) (mRet (mDr (mC .non))) mSkip)
def pi1 : En → WS := (mSet [0] 1 (mLc (mWalk (mDe (mSlice (mVar 0) (mPart (mC (.int 2))) mNoPart))) [2] (pName 2) mYes (mDe (mCall 1 sem_number_in [] (mCons (mVar 2) mNil)))))
def pi2 : En → WS := (mIf (mTest (mOp (gEq false) (mDe (mSlice (mVar 0) (mPart (mC (.int 4))) mNoPart)) (mDe (mLst (mCons (mC (.str "-")) mNil))))) (mRet (mDr (mIfE (mTest (mOp (gIn true) (mC .non) (mDe (mSlice (mVar 1) mNoPart (mPart (mC (.int 2))))))) (mTup (mCons (mOp gIx (mVar 0) (mC (.int 1))) (mCons (mOp gIx (mVar 1) (mC (.int 0))) (mCons (mOp gIx (mVar 1) (mC (.int 1))) (mCons (mC .non) mNil))))) (mC .non)))) mSkip)
def pi3 : En → WS := (mIf (mOr (mTest (mOp (gIn false) (mC .non) (mVar 1))) (mTest (mOp (gEq false) (mDe (mBlt (g1 lenD) (mCons (mVar 0) mNil))) (mC (.int 5))))) (mRet (mDr (mC .non))) mSkip)
def pi4 : En → WS := (mRet (mDr (mTup (mCons (mOp gIx (mVar 0) (mC (.int 1))) (mCons (mOp gIx (mVar 1) (mC (.int 0))) (mCons (mOp gIx (mVar 1) (mC (.int 1))) (mCons (mTup (mCons (mOp gIx (mVar 1) (mC (.int 2))) (mCons (mOp gIx (mVar 1) (mC (.int 3))) mNil))) mNil)))))))
def pi : En → WS := mSeq pi0 (mSeq pi1 (mSeq pi2 (mSeq pi3 pi4)))
theorem pi_sem : sem_person_in = runBody 3 pi := rfl
def mi0 : En → WS := (mIf (mOr (mTest (mOp (gEq true) (mDe (mBlt (g1 lenD) (mCons (mVar 0) mNil))) (mC (.int 4)))) (mOr (mTest (mOp (gEq true) (mOp gIx (mVar 0) (mC (.int 0))) (mC (.str "meet")))) (mOr (mNot (mTest (mDe (mCall 1 sem_is_name [] (mCons (mOp gIx (mVar 0) (mC (.int 2))) mNil))))) (mNot (mTest (mDe (mCall 1 sem_is_name [] (mCons (mOp gIx (mVar 0) (mC (.int 3))) mNil)))))))) (mRet (mDr (mC .non))) mSkip)
def mi1 : En → WS := (mSet [0] 1 (mCall 1 sem_number_in [] (mCons (mOp gIx (mVar 0) (mC (.int 1))) mNil)))
def mi2 : En → WS := (mRet (mDr (mIfE (mTest (mOp (gIs true) (mVar 1) (mC .non))) (mTup (mCons (mVar 1) (mCons (mOp gIx (mVar 0) (mC (.int 2))) (mCons (mOp gIx (mVar 0) (mC (.int 3))) mNil)))) (mC .non))))
def mi : En → WS := mSeq mi0 (mSeq mi1 mi2)
theorem mi_sem : sem_meeting_in = runBody 2 mi := rfl
def numI (i : Int) : Str := Str.ofString (toString i)
structure NumOk (i : Int) : Prop where
  ge : 0 ≤ i
  lt : i < 10000000000000000000
theorem numI_tl {i : Int} (h : 0 ≤ i) : tl (numI i) = numL i.toNat := by
  unfold numI
  have : i = (i.toNat : Int) := by omega
  rw [this, tl_num, Int.toNat_natCast]
theorem NumOk.len {i : Int} (h : NumOk i) : (numI i).length ≤ 19 := by
  rw [len_tl, numI_tl h.ge]
  exact numL_len (by decide) (by have := h.lt; have := h.ge; omega)
theorem NumOk.one {i : Int} (h : NumOk i) : 1 ≤ (numI i).length := by
  rw [len_tl, numI_tl h.ge]
  exact List.length_pos_iff.mpr (numL_ne _)
theorem NumOk.digits {i : Int} (h : NumOk i) : ∀ c ∈ (numI i).cps.toList, 48 ≤ c ∧ c ≤ 57 := by
  intro c hc
  have := numL_digits i.toNat c (by rw [← numI_tl h.ge]; exact hc)
  omega
theorem NumOk.free {i : Int} (h : NumOk i) {s : Nat} (hs : s < 48 ∨ 57 < s) : s ∉ tl (numI i) := by
  rw [numI_tl h.ge]; exact numL_free hs
theorem NumOk.sok {i : Int} (h : NumOk i) : sOk (numI i) = true := by
  show (numI i).cps.all (fun c => decide (c < 0x110000)) = true
  rw [← Array.all_toList, List.all_eq_true]
  intro c hc
  have := h.digits c hc
  exact decide_eq_true (by omega)
theorem NumOk.val {i : Int} (h : NumOk i) : intText? (numI i) = some i := by
  unfold numI
  have e : i = (i.toNat : Int) := by have := h.ge; omega
  have := int_num (n := i.toNat) (Nat.le_trans (numL_len (k := 19) (by decide) (by have := h.lt; have := h.ge; omega)) (by decide))
  rw [← e] at this
  exact this
theorem numL_head : ∀ (n : Nat), 10 ≤ n → ∃ c t, numL n = c :: t ∧ c ≠ 48 := by
  intro n
  induction n using Nat.strongRecOn with
  | _ n ih =>
    intro h
    rw [numL_step h]
    by_cases h2 : n / 10 < 10
    · rw [numL_lt h2]
      exact ⟨_, _, rfl, by omega⟩
    · obtain ⟨c, t, e, hc⟩ := ih (n / 10) (by omega) (by omega)
      rw [e]
      exact ⟨c, _, rfl, hc⟩
theorem NumOk.str {i : Int} (h : NumOk i) : strD (.int i) = some (.str (numI i)) := by
  show (if i.natAbs.log2 < 1920 then some (D.str (toString i)) else none) = _
  have : i.natAbs.log2 < 1920 := by
    by_cases z : i.natAbs = 0
    · rw [z]; decide
    · refine Nat.lt_of_lt_of_le ((Nat.log2_lt z).mpr (show i.natAbs < 2 ^ 64 by have := h.lt; have := h.ge; omega)) (by decide)
  rw [if_pos this]; rfl
def digs : Str := "0123456789"
theorem number_in_eq {i : Int} (h : NumOk i) : sem_number_in [.str (numI i)] = W.ret (false, .int i) := by
  rw [ni_sem]
  obtain ⟨x, hx⟩ : ∃ x, x = numI i := ⟨_, rfl⟩
  have h1 : 1 ≤ x.length := hx ▸ h.one
  have h19 : x.length ≤ 19 := hx ▸ h.len
  have hd : ∀ c ∈ x.cps.toList, 48 ≤ c ∧ c ≤ 57 := hx ▸ h.digits
  rw [← hx]
  refine run_ret _ _ _ _ [some (false, .str x), none] ?_
  have el : lenD (.str x) = some (.int x.length) := if_pos (small (by omega))
  have e0 : (mDe (mBlt (g1 lenD) (mCons (mVar 0) mNil))) [some (.str x), none] = W.ret (.int x.length) := by
    show (W.bind (W.calm (match lenD (.str x) with | some e => W.ret (false, e) | none => W.fail)) fun r => W.ret r.2 : W Ex D) = _
    rw [el]; rfl
  have e1 : (mChain gLe gLe (mC (.int 1)) (mDe (mBlt (g1 lenD) (mCons (mVar 0) mNil))) (mC (.int 19))) [some (.str x), none] = W.ret (.bl true) := by
    show (W.bind ((mDe (mBlt (g1 lenD) (mCons (mVar 0) mNil))) [some (.str x), none]) fun b => W.bind (W.calm (gLe (.int 1) b)) fun t => W.bind (asB t) fun k => if k = true then W.bind (W.ret (.int 19)) fun c => W.calm (gLe b c) else W.ret (.bl false)) = _
    rw [e0]
    show (if decide ((1 : Int) ≤ x.length) = true then W.ret (D.bl (decide ((x.length : Int) ≤ 19))) else W.ret (.bl false) : W Ex D) = _
    rw [decide_eq_true (by omega : (1 : Int) ≤ x.length), decide_eq_true (by omega : (x.length : Int) ≤ 19)]; rfl
  have e2 : (mBlt (g1 allD) (mCons (mDe (mLc (mWalk (mVar 0)) [1] (pName 1) mYes (mOp (gIn false) (mVar 1) (mC (.str "0123456789"))))) mNil)) [some (.str x), none] = W.ret (false, .bl (x.cps.toList.all fun c => decide (c ∈ digs.cps.toList))) := by
    rw [all_eq (x.cps.toList.map fun c => .str ⟨#[c]⟩) (fun d => match d with | .str z => strIn z digs | _ => false) rfl (by rw [List.length_map]; exact small (by show x.length ≤ 1000; omega)) fun d hd => by
      obtain ⟨c, _, rfl⟩ := List.mem_map.mp hd
      refine ⟨[(1, .str ⟨#[c]⟩)], rfl, ?_⟩
      show W.ret (D.bl (strIn ⟨#[c]⟩ digs != false)) = W.ret (D.bl (strIn ⟨#[c]⟩ digs))
      rw [Bool.bne_false]]
    rw [List.all_map]
    rfl
  have e3 : (x.cps.toList.all fun c => decide (c ∈ digs.cps.toList)) = true := by
    rw [List.all_eq_true]
    intro c hc
    have := hd c hc
    refine decide_eq_true ?_
    show c ∈ [48, 49, 50, 51, 52, 53, 54, 55, 56, 57]
    simp only [List.mem_cons, List.not_mem_nil, or_false]
    omega
  rw [e3] at e2
  refine (guardN (or_eq false false (not_eq true (test_eq _ e1)) fun _ => not_eq true (test_eq _ (de_eq e2)))).trans (ret_eq ?_)
  -- the first sign
  have hx0 : x.cps.toList ≠ [] := by
    intro z
    have : x.length = x.cps.toList.length := len_tl x
    rw [z] at this; simp at this; omega
  obtain ⟨c, t, ct⟩ := List.exists_cons_of_ne_nil hx0
  have g0 : gIx (.str x) (.int 0) = W.ret (.str ⟨#[c]⟩) := by
    unfold gIx
    have : ixD (.str x) (.int 0) = some (.str ⟨#[c]⟩) := by
      show (if x.length ≤ sizeLine then (atI x.cps.toList 0).map fun c => D.str ⟨#[c]⟩ else none) = _
      have a0 : atI (c :: t) 0 = some c := by
        unfold atI ixN
        rw [if_pos (Int.le_refl 0), if_pos (by rw [List.length_cons]; omega)]; rfl
      rw [if_pos (small (by omega)), ct, a0]; rfl
    rw [this]
  have hc := hd c (by rw [ct]; exact List.mem_cons_self)
  have sc : sOk ⟨#[c]⟩ = true := by
    show (#[c] : Array Nat).all (fun c => decide (c < 0x110000)) = true
    simp; omega
  have t1 : (mTest (mOp (gEq false) (mOp gIx (mVar 0) (mC (.int 0))) (mC (.str "0")))) [some (.str x), none] = W.ret ((⟨#[c]⟩ : Str) == "0") := by
    refine test_eq _ (op_eq (a := .str ⟨#[c]⟩) (b := .str "0") (op_eq (a := .str x) (b := .int 0) rfl rfl g0) rfl ?_)
    rw [eq_str false sc (by decide +kernel), Bool.bne_false]
  have t2 : (mTest (mOp gGt (mDe (mBlt (g1 lenD) (mCons (mVar 0) mNil))) (mC (.int 1)))) [some (.str x), none] = W.ret (decide ((1 : Int) < x.length)) := test_eq _ (op_eq e0 rfl rfl)
  have fin : ((⟨#[c]⟩ : Str) == "0" && decide ((1 : Int) < x.length)) = false := by
    by_cases z : (1 : Int) < x.length
    · have : ¬ i.toNat < 10 := fun y => by
        have e := numI_tl h.ge
        rw [← hx, numL_lt y] at e
        have := len_tl x
        rw [e] at this; simp at this; omega
      obtain ⟨c', t', e, hne⟩ := numL_head i.toNat (by omega)
      rw [← numI_tl h.ge, ← hx] at e
      have e' : x.cps.toList = c' :: t' := e
      rw [ct] at e'
      cases e'
      rw [beq_eq_false_iff_ne.mpr (fun y => hne (by
        have y : (⟨#[c]⟩ : Str).cps = ("0" : Str).cps := congrArg Str.cps y
        have y : #[c] = #[48] := y
        simpa using y))]; rfl
    · rw [decide_eq_false z, Bool.and_false]
  have e4 := and_eq (m := (mTest (mOp (gEq false) (mOp gIx (mVar 0) (mC (.int 0))) (mC (.str "0"))))) _ _ t1 fun _ => t2
  rw [fin] at e4
  show W.bind (mAnd _ _ [some (.str x), none]) (fun b => if b = true then (mDr (mC .non)) [some (.str x), none] else (mBlt (g1 Fb.intD) (mCons (mVar 0) mNil)) [some (.str x), none]) = _
  rw [e4]
  show (mBlt (g1 Fb.intD) (mCons (mVar 0) mNil)) [some (.str x), none] = _
  refine blt_eq (ds := [.str x]) (cons_eq rfl rfl) ?_
  have : Fb.intD (.str x) = some (.int i) := by
    show (if x.length ≤ 640 then (PySem.intText? x).map D.int else none) = _
    rw [if_pos (by omega), hx, h.val]; rfl
  show (match Fb.intD (.str x) with | some e => W.ret (false, e) | none => W.fail) = _
  rw [this]
theorem number_in_bar : sem_number_in [.str "-"] = W.ret (false, .non) := by
  have : (mBlt (g1 allD) (mCons (mDe (mLc (mWalk (mVar 0)) [1] (pName 1) mYes (mOp (gIn false) (mVar 1) (mC (.str "0123456789"))))) mNil)) [some (.str "-"), none] = W.ret (false, .bl false) := rfl
  refine run_ret _ _ _ _ [some (false, .str "-"), none] ?_
  exact (guard (r := (false, .non)) true (or_eq false true rfl fun _ => not_eq false (test_eq _ (de_eq this))) rfl)
end FbL
end

section
set_option Elab.async false
set_option linter.all false
set_option maxRecDepth 100000
set_option maxHeartbeats 1000000
namespace FbL
open PySem PySem.Spec PyProof.Rows L2 Fb TL
theorem lcN_nil {p : D → Option (List (Nat × D))} {e : Ro → W Ex D} {ρ : Ro} : lcN p mYes e ρ [] = W.ret [] := rfl
theorem lcN_cons {p : D → Option (List (Nat × D))} {e : Ro → W Ex D} {ρ : Ro} {x y : D} {xs ys : List D} {bs : List (Nat × D)} (h : p x = some bs) (h2 : e (setR ρ bs) = W.ret y) (h3 : lcN p mYes e ρ xs = W.ret ys) : lcN p mYes e ρ (x :: xs) = W.ret (y :: ys) := by
  have := lcN_map (p := p) (c := mYes) (e := e) (ρ := ρ) (fun _ => true)
  unfold lcN
  rw [h]
  show (W.bind (W.calm (W.ret true)) fun b => if b = true then W.bind (W.calm (e (setR ρ bs))) fun y => W.bind (lcN p mYes e ρ xs) fun ys => W.ret (y :: ys) else lcN p mYes e ρ xs) = _
  rw [h2, h3]; rfl
theorem eqvAll_strs : ∀ (l m : List Str), PyData.eqvAll (l.map PyData.str) (m.map PyData.str) = decide (l = m)
  | [], [] => rfl
  | [], _ :: _ => rfl
  | _ :: _, [] => rfl
  | a :: l, b :: m => by
    show ((a == b) && PyData.eqvAll (l.map PyData.str) (m.map PyData.str)) = _
    rw [eqvAll_strs l m]
    by_cases h : a = b
    · subst h
      by_cases h2 : l = m
      · subst h2; simp
      · simp [h2]
    · simp [h]
theorem eq_strL (neg : Bool) {l m : List Str} (hl : ∀ x ∈ l, sOk x = true) (hm : ∀ x ∈ m, sOk x = true) : gEq neg (.lst (l.map D.str)) (.lst (m.map D.str)) = W.ret (.bl (decide (l = m) != neg)) := by
  have py : ∀ k : List Str, (D.lst (k.map D.str)).py = some (.list (k.map PyData.str)) := fun k => by
    show (D.pys (k.map D.str)).map PyData.list = _
    rw [pys_map D.str PyData.str (fun _ => rfl) k]; rfl
  have sh : ∀ k : List Str, (∀ x ∈ k, sOk x = true) → SeqAt.shaped (.list (k.map PyData.str)) = true := fun k hk => (shaped_list fun p hp => by
    obtain ⟨o, ho, rfl⟩ := List.mem_map.mp hp
    exact ⟨hk o ho, Nat.zero_le _⟩).1
  have : D.deq (.lst (l.map D.str)) (.lst (m.map D.str)) = some (decide (l = m)) := by
    unfold D.deq
    rw [py, py]
    show (if SeqAt.shaped (.list (l.map PyData.str)) = true ∧ SeqAt.shaped (.list (m.map PyData.str)) = true then some (PyData.eqvAll (l.map PyData.str) (m.map PyData.str)) else none) = _
    rw [if_pos ⟨sh l hl, sh m hm⟩, eqvAll_strs]
  unfold gEq
  rw [this]
def endsW : Option (Int × Int) → List Str
  | none => ["-"]
  | some (a, b) => [numI a, numI b]
def wordsP (p : Per) : List Str := "person" :: p.nm :: numI p.w :: numI p.s :: endsW p.sp
def wordsM (m : Met) : List Str := ["meet", numI m.day, m.one, m.other]
structure PerT (p : Per) : Prop where
  nm : nameOk p.nm = true
  w : NumOk p.w
  s : NumOk p.s
  sp : ∀ a b, p.sp = some (a, b) → NumOk a ∧ NumOk b
structure MetT (m : Met) : Prop where
  day : NumOk m.day
  one : nameOk m.one = true
  other : nameOk m.other = true
theorem sok_person : sOk "person" = true := by decide +kernel
theorem sok_bar : sOk "-" = true := by decide +kernel
theorem sok_meet : sOk "meet" = true := by decide +kernel
theorem not_self {x : Str} (h : sOk x = true) : gEq true (.str x) (.str x) = W.ret (.bl false) := by
  rw [eq_str true h h, beq_self_eq_true]; rfl
theorem person_in_eq {p : Per} (h : PerT p) : sem_person_in [.lst ((wordsP p).map D.str)] = W.ret (false, perD p) := by
  rw [pi_sem]
  obtain ⟨n, w, s, sp⟩ := p
  have hn : (mDe (mCall 1 sem_is_name [] (mCons (mOp gIx (mVar 0) (mC (.int 1))) mNil))) [some (.lst ((wordsP ⟨n, w, s, sp⟩).map D.str)), none, none] = W.ret (.bl true) :=
    de_eq ((call_eq (ds := [.str n]) (cons_eq (op_eq (a := .lst ((wordsP ⟨n, w, s, sp⟩).map D.str)) (b := .int 1) rfl rfl (by rcases sp with _ | ⟨_, _⟩ <;> rfl)) rfl) rfl (is_name_eq n (name_size h.nm))).trans (by rw [show nameOk n = true from h.nm]))
  have h0 : (mTest (mOp (gEq true) (mOp gIx (mVar 0) (mC (.int 0))) (mC (.str "person")))) [some (.lst ((wordsP ⟨n, w, s, sp⟩).map D.str)), none, none] = W.ret false :=
    test_eq _ (op_eq (a := .str "person") (b := .str "person") (op_eq (a := .lst ((wordsP ⟨n, w, s, sp⟩).map D.str)) (b := .int 0) rfl rfl (by rcases sp with _ | ⟨_, _⟩ <;> rfl)) rfl (not_self sok_person))
  have c0 : ∀ z, (mTest (mOp (gIn true) (mDe (mBlt (g1 lenD) (mCons (mVar 0) mNil))) (mTup (mCons (mC (.int 5)) (mCons (mC (.int 6)) mNil))))) [some (.lst ((wordsP ⟨n, w, s, sp⟩).map D.str)), none, none] = W.ret z → mSeq pi0 (mSeq pi1 (mSeq pi2 (mSeq pi3 pi4))) [some (false, .lst ((wordsP ⟨n, w, s, sp⟩).map D.str)), none, none] = if z = true then W.ret (.rt (false, .non), [some (false, .lst ((wordsP ⟨n, w, s, sp⟩).map D.str)), none, none]) else mSeq pi1 (mSeq pi2 (mSeq pi3 pi4)) [some (false, .lst ((wordsP ⟨n, w, s, sp⟩).map D.str)), none, none] := fun z hz => by
    refine (guard (r := (false, .non)) z ((or_eq z false hz fun _ => or_eq false false h0 fun _ => not_eq true (test_eq _ hn)).trans (by rw [Bool.or_false])) rfl)
  have nw : ∀ {i : Int} {ρ : Ro}, NumOk i → (mDe (mCall 1 sem_number_in [] (mCons (mVar 2) mNil))) (setR (wipeR ρ [2]) [(2, .str (numI i))]) = W.ret (.int i) → True := fun _ _ => trivial
  have one : ∀ {i : Int}, NumOk i → (mDe (mCall 1 sem_number_in [] (mCons (mVar 2) mNil))) [some (.lst ((wordsP ⟨n, w, s, sp⟩).map D.str)), none, some (.str (numI i))] = W.ret (.int i) := fun hi => de_eq (call_eq (ds := [.str (numI _)]) rfl rfl (number_in_eq hi))
  rcases sp with _ | ⟨a, b⟩
  · refine run_ret _ _ _ _ [some (false, .lst ((wordsP ⟨n, w, s, none⟩).map D.str)), some (true, .lst [.int w, .int s, .non]), none] ?_
    refine (c0 false rfl).trans ?_
    have e1 : mLc (mWalk (mDe (mSlice (mVar 0) (mPart (mC (.int 2))) mNoPart))) [2] (pName 2) mYes (mDe (mCall 1 sem_number_in [] (mCons (mVar 2) mNil))) (see [0] [some (false, .lst ((wordsP ⟨n, w, s, none⟩).map D.str)), none, none]) = W.ret (true, .lst [.int w, .int s, .non]) :=
      lc_eq (xs := [.str (numI w), .str (numI s), .str "-"]) rfl (small (by show 3 ≤ 1000; decide)) (lcN_cons (bs := [(2, .str (numI w))]) rfl (one h.w) (lcN_cons (bs := [(2, .str (numI s))]) rfl (one h.s) (lcN_cons (bs := [(2, .str "-")]) rfl (de_eq (call_eq (ds := [.str "-"]) rfl rfl number_in_bar)) lcN_nil)))
    refine (seq_nx (set_eq e1 (asg_imm (r := (true, .lst [.int w, .int s, .non])) rfl))).trans ?_
    refine seq_rt (r := (false, perD ⟨n, w, s, none⟩)) (ρ' := [some (false, .lst ((wordsP ⟨n, w, s, none⟩).map D.str)), some (true, .lst [.int w, .int s, .non]), none]) ((if_eq true (test_eq true ?_)).trans ?_)
    · refine op_eq (a := .lst ([("-" : Str)].map D.str)) (b := .lst ([("-" : Str)].map D.str)) rfl rfl ?_
      rw [eq_strL false (by simp [sok_bar]) (by simp [sok_bar])]; rfl
    · exact ret_eq rfl
  · obtain ⟨ha, hb⟩ := h.sp a b rfl
    refine run_ret _ _ _ _ [some (false, .lst ((wordsP ⟨n, w, s, some (a, b)⟩).map D.str)), some (true, .lst [.int w, .int s, .int a, .int b]), none] ?_
    refine (c0 false rfl).trans ?_
    have e1 : mLc (mWalk (mDe (mSlice (mVar 0) (mPart (mC (.int 2))) mNoPart))) [2] (pName 2) mYes (mDe (mCall 1 sem_number_in [] (mCons (mVar 2) mNil))) (see [0] [some (false, .lst ((wordsP ⟨n, w, s, some (a, b)⟩).map D.str)), none, none]) = W.ret (true, .lst [.int w, .int s, .int a, .int b]) :=
      lc_eq (xs := [.str (numI w), .str (numI s), .str (numI a), .str (numI b)]) rfl (small (by show 4 ≤ 1000; decide)) (lcN_cons (bs := [(2, .str (numI w))]) rfl (one h.w) (lcN_cons (bs := [(2, .str (numI s))]) rfl (one h.s) (lcN_cons (bs := [(2, .str (numI a))]) rfl (one ha) (lcN_cons (bs := [(2, .str (numI b))]) rfl (one hb) lcN_nil))))
    refine (seq_nx (set_eq e1 (asg_imm (r := (true, .lst [.int w, .int s, .int a, .int b])) rfl))).trans ?_
    refine (guardN (test_eq false ?_)).trans ((guardN (or_eq false false rfl fun _ => rfl)).trans (ret_eq rfl))
    refine op_eq (a := .lst ([numI a, numI b].map D.str)) (b := .lst ([("-" : Str)].map D.str)) rfl rfl ?_
    rw [eq_strL false (by simp [ha.sok, hb.sok]) (by simp [sok_bar])]
    rw [decide_eq_false (by simp)]; rfl
theorem person_in_met (m : Met) : sem_person_in [.lst ((wordsM m).map D.str)] = W.ret (false, .non) := by
  rw [pi_sem]
  refine run_ret _ _ _ _ [some (false, .lst ((wordsM m).map D.str)), none, none] ?_
  exact (guard (r := (false, .non)) true (or_eq true true rfl (fun z => nomatch z)) rfl)
theorem meeting_in_per (p : Per) : sem_meeting_in [.lst ((wordsP p).map D.str)] = W.ret (false, .non) := by
  rw [mi_sem]
  refine run_ret _ _ _ _ [some (false, .lst ((wordsP p).map D.str)), none] ?_
  obtain ⟨n, w, s, sp⟩ := p
  rcases sp with _ | ⟨a, b⟩ <;> exact (guard (r := (false, .non)) true (or_eq true true rfl (fun z => nomatch z)) rfl)
theorem meeting_in_eq {m : Met} (h : MetT m) : sem_meeting_in [.lst ((wordsM m).map D.str)] = W.ret (false, metD m) := by
  rw [mi_sem]
  refine run_ret _ _ _ _ [some (false, .lst ((wordsM m).map D.str)), some (false, .int m.day)] ?_
  have nm : ∀ {x : Str} {i : Int}, nameOk x = true → gIx (.lst ((wordsM m).map D.str)) (.int i) = W.ret (.str x) → (mTest (mDe (mCall 1 sem_is_name [] (mCons (mOp gIx (mVar 0) (mC (.int i))) mNil)))) [some (.lst ((wordsM m).map D.str)), none] = W.ret true := fun {x i} hx hi =>
    test_eq _ (de_eq ((call_eq (ds := [.str x]) (cons_eq (op_eq (a := .lst ((wordsM m).map D.str)) (b := .int i) rfl rfl hi) rfl) rfl (is_name_eq x (name_size hx))).trans (by rw [hx])))
  have h0 : (mTest (mOp (gEq true) (mOp gIx (mVar 0) (mC (.int 0))) (mC (.str "meet")))) [some (.lst ((wordsM m).map D.str)), none] = W.ret false :=
    test_eq _ (op_eq (a := .str "meet") (b := .str "meet") (op_eq (a := .lst ((wordsM m).map D.str)) (b := .int 0) rfl rfl rfl) rfl (not_self sok_meet))
  refine (guardN (or_eq false false rfl fun _ => or_eq false false h0 fun _ => or_eq false false (not_eq true (nm h.one rfl)) fun _ => not_eq true (nm h.other rfl))).trans ?_
  refine (seq_nx (set_eq (r := (false, .int m.day)) (call_eq (ds := [.str (numI m.day)]) (cons_eq (op_eq (a := .lst ((wordsM m).map D.str)) (b := .int 1) rfl rfl rfl) rfl) rfl (number_in_eq h.day)) (asg_imm rfl))).trans (ret_eq rfl)
end FbL
end

section
set_option Elab.async false
set_option linter.all false
set_option maxRecDepth 100000
set_option maxHeartbeats 1000000
namespace FbL
open PySem PySem.Spec PyProof.Rows L2 Fb TL
def rd0 : En → WS := (mPar [(2, [], (mLst mNil)), (3, [], (mLst mNil))])
def rd1B0 : En → WS := (mSet [5] 6 (mSplit (mVar 5) (mC (.str " "))))
def rd1B1 : En → WS := (mPar [(7, [6], (mCall 1 sem_person_in [] (mCons (mVar 6) mNil))), (8, [6], (mCall 1 sem_meeting_in [] (mCons (mVar 6) mNil)))])
def rd1B2 : En → WS := (mIf (mAnd (mTest (mOp (gIs true) (mVar 7) (mC .non))) (mTest (mOp (gEq false) (mDe (mBlt (g1 lenD) (mCons (mVar 3) mNil))) (mC (.int 0))))) (mApp [7] 2 (mVar 7)) (mIf (mTest (mOp (gIs true) (mVar 8) (mC .non))) (mApp [8] 3 (mVar 8)) mNo))
def rd1B : En → WS := mSeq rd1B0 (mSeq rd1B1 rd1B2)
def rd1 : En → WS := (mFor [1] (mEnum (mCons (mDe (mSplit (mVar 1) (mC (.str "\n")))) mNil)) (pTup 2 (pCons (pName 4) (pCons (pName 5) pNil))) rd1B)
def rd2 : En → WS := (mRet (mMakeV "Plan" 3 sem_Plan___init__ [] 0 (mCons (mVar 2) (mCons (mVar 3) mNil))))
def rd : En → WS := mSeq rd0 (mSeq rd1 rd2)
theorem rd_sem : sem_Plan_read = runBody 9 rd := rfl
theorem sum_le {α : Type} {f : α → Nat} {B : Nat} : ∀ {l : List α}, (∀ a ∈ l, f a ≤ B) → (l.map f).sum ≤ l.length * B
  | [], _ => by simp
  | a :: l, h => by
    rw [List.map_cons, List.sum_cons, List.length_cons, Nat.add_mul, Nat.one_mul]
    have := sum_le (l := l) (f := f) (B := B) fun z hz => h z (List.mem_cons_of_mem _ hz)
    have := h a List.mem_cons_self
    omega
theorem mem_joinL {S : List Nat} {c : Nat} : ∀ {parts : List (List Nat)}, c ∈ joinL S parts → c ∈ S ∨ ∃ p ∈ parts, c ∈ p
  | [], h => nomatch h
  | [p], h => .inr ⟨p, List.mem_singleton.mpr rfl, h⟩
  | p :: q :: r, h => by
    rcases List.mem_append.mp (show c ∈ p ++ (S ++ joinL S (q :: r)) from h) with h | h
    · exact .inr ⟨p, List.mem_cons_self, h⟩
    · rcases List.mem_append.mp h with h | h
      · exact .inl h
      · rcases mem_joinL h with h | ⟨z, hz, h⟩
        · exact .inl h
        · exact .inr ⟨z, List.mem_cons_of_mem _ hz, h⟩
theorem len_joinL {S : List Nat} : ∀ parts : List (List Nat), (joinL S parts).length ≤ (parts.map List.length).sum + parts.length * S.length
  | [] => by simp [joinL]
  | [p] => by simp [joinL]
  | p :: q :: r => by
    have := len_joinL (S := S) (q :: r)
    show (p ++ (S ++ joinL S (q :: r))).length ≤ _
    rw [List.length_append, List.length_append, List.map_cons, List.sum_cons, List.length_cons, Nat.add_mul, Nat.one_mul]
    omega
theorem len_join (y : Str) (parts : List Str) : (Txt.join y parts).length ≤ (parts.map (·.length)).sum + parts.length * y.length := by
  rw [len_tl, join_eq, tl_join]
  refine Nat.le_trans (len_joinL _) ?_
  rw [List.map_map, List.length_map, len_tl y]
  exact Nat.add_le_add_right (Nat.le_of_eq (congrArg List.sum (List.map_congr_left fun a _ => (len_tl a).symm))) _
/-! ### words -/
theorem name_sign {x : Str} (h : nameOk x = true) : ∀ c ∈ tl x, 97 ≤ c ∧ c ≤ 122 := by
  unfold nameOk at h
  have h := (Bool.and_eq_true_iff.mp h).2
  rw [List.all_eq_true] at h
  intro c hc
  have := of_decide_eq_true (h c hc)
  have hb : ∀ c ∈ letters.cps.toList, 97 ≤ c ∧ c ≤ 122 := by decide
  exact hb c this
structure Wd1 (x : Str) : Prop where
  no32 : 32 ∉ tl x
  no10 : 10 ∉ tl x
  len : x.length ≤ 19
theorem Wd1.name {x : Str} (h : nameOk x = true) : Wd1 x := ⟨fun z => by have := name_sign h 32 z; omega, fun z => by have := name_sign h 10 z; omega, Nat.le_trans (name_len h) (by decide)⟩
theorem Wd1.num {i : Int} (h : NumOk i) : Wd1 (numI i) := ⟨h.free (.inl (by decide)), h.free (.inl (by decide)), h.len⟩
theorem wd_person : Wd1 "person" := ⟨by decide, by decide, by decide⟩
theorem wd_meet : Wd1 "meet" := ⟨by decide, by decide, by decide⟩
theorem wd_bar : Wd1 "-" := ⟨by decide, by decide, by decide⟩
theorem wdsP {p : Per} (h : PerT p) : ∀ x ∈ wordsP p, Wd1 x := by
  obtain ⟨n, w, s, sp⟩ := p
  intro x hx
  rcases sp with _ | ⟨a, b⟩
  · simp only [wordsP, endsW, List.mem_cons, List.not_mem_nil, or_false] at hx
    rcases hx with rfl | rfl | rfl | rfl | rfl
    · exact wd_person
    · exact .name h.nm
    · exact .num h.w
    · exact .num h.s
    · exact wd_bar
  · simp only [wordsP, endsW, List.mem_cons, List.not_mem_nil, or_false] at hx
    rcases hx with rfl | rfl | rfl | rfl | rfl | rfl
    · exact wd_person
    · exact .name h.nm
    · exact .num h.w
    · exact .num h.s
    · exact .num (h.sp a b rfl).1
    · exact .num (h.sp a b rfl).2
theorem wdsM {m : Met} (h : MetT m) : ∀ x ∈ wordsM m, Wd1 x := by
  intro x hx
  simp only [wordsM, List.mem_cons, List.not_mem_nil, or_false] at hx
  rcases hx with rfl | rfl | rfl | rfl
  · exact wd_meet
  · exact .num h.day
  · exact .name h.one
  · exact .name h.other
def lineOf (ws : List Str) : Str := Txt.join " " ws
structure Ln (ws : List Str) : Prop where
  ne : ws ≠ []
  few : ws.length ≤ 6
  wd : ∀ x ∈ ws, Wd1 x
theorem lnP {p : Per} (h : PerT p) : Ln (wordsP p) := ⟨by simp [wordsP], by obtain ⟨n, w, s, _ | ⟨a, b⟩⟩ := p <;> simp [wordsP, endsW], wdsP h⟩
theorem lnM {m : Met} (h : MetT m) : Ln (wordsM m) := ⟨by simp [wordsM], by simp [wordsM], wdsM h⟩
theorem Ln.sum {ws : List Str} (h : Ln ws) : (ws.map (·.length)).sum ≤ 114 := by
  have := sum_le (l := ws) (f := (·.length)) (B := 19) fun x hx => (h.wd x hx).len
  have := h.few
  omega
theorem Ln.len {ws : List Str} (h : Ln ws) : (lineOf ws).length ≤ 120 := by
  have h1 := len_join " " ws
  have := h.sum
  have := h.few
  have e : (" " : Str).length = 1 := rfl
  rw [e, Nat.mul_one] at h1
  unfold lineOf
  omega
theorem Ln.no10 {ws : List Str} (h : Ln ws) : 10 ∉ tl (lineOf ws) := by
  intro z
  unfold lineOf at z
  rw [join_eq, tl_join] at z
  rcases mem_joinL z with z | ⟨p, hp, z⟩
  · exact absurd z (by decide)
  · obtain ⟨x, hx, rfl⟩ := List.mem_map.mp hp
    exact (h.wd x hx).no10 z
theorem Ln.split {ws : List Str} (h : Ln ws) : Txt.split (lineOf ws) " " = ws := split_join (s := 32) (S := []) rfl (by decide +kernel) h.ne fun p hp => (h.wd p hp).no32
theorem split_eq {m n : Ro → W Ex D} {ρ : Ro} {x b : Str} {ps : List Str} (hm : m ρ = W.ret (.str x)) (hn : n ρ = W.ret (.str b)) (hb : (b.length == 0) = false) (hl : x.length + 2 ≤ sizeLine) (hs : Txt.split x b = ps) : mSplit m n ρ = W.ret (true, .lst (ps.map D.str)) := by
  unfold mSplit
  rw [hm]
  show (W.bind (n ρ) fun e => W.got (asS e) fun b => if (b.length == 0) = false ∧ x.length + 2 ≤ sizeLine then W.ret (true, D.lst ((Txt.split x b).map D.str)) else W.fail) = _
  rw [hn]
  show (if (b.length == 0) = false ∧ x.length + 2 ≤ sizeLine then W.ret (true, D.lst ((Txt.split x b).map D.str)) else W.fail) = _
  rw [if_pos ⟨hb, hl⟩, hs]
theorem par2 {i j : Nat} {fi fj : List Nat} {m n : Ro → W Ex (Bool × D)} {ρ ρ1 ρ2 : En} {r1 r2 : Bool × D} (h1 : m (wipeR (see fi ρ) []) = W.ret r1) (e1 : asg fi i r1 ρ = ρ1) (h2 : n (wipeR (see fj ρ1) [i]) = W.ret r2) (e2 : asg fj j r2 ρ1 = ρ2) : mPar [(i, fi, m), (j, fj, n)] ρ = W.ret (.nx, ρ2) := by
  unfold mPar
  have p0 : ∀ hid ρ', parN ρ [] hid ρ' = W.ret ρ' := fun _ _ => rfl
  have p1 : parN ρ [(j, fj, n)] [i] ρ1 = W.ret ρ2 := by
    unfold parN
    rw [h2, ← e2]; rfl
  have p2 : parN ρ [(i, fi, m), (j, fj, n)] [] ρ = W.ret ρ2 := by
    unfold parN
    rw [h1]
    show parN ρ [(j, fj, n)] [i] (asg fi i r1 ρ) = _
    rw [e1, p1]
  rw [p2]; rfl
/-! ### Plan.read -/
def rdE (t : Str) (ps : List Per) (ms : List Met) (a b c e f : Option (Bool × D)) : En := [some (false, .cls "Plan"), some (false, .str t), some (true, .lst (ps.map perD)), some (true, .lst (ms.map metD)), a, b, c, e, f]
theorem rdBody_per {t : Str} {ps : List Per} {p : Per} (h : PerT p) (hl : ps.length < 1000) (k : Nat) (c e f : Option (Bool × D)) :
    ∃ c' e' f', rd1B (rdE t ps [] (some (false, .int k)) (some (false, .str (lineOf (wordsP p)))) c e f) = W.ret (.nx, rdE t (ps ++ [p]) [] (some (false, .int k)) (some (false, .str (lineOf (wordsP p)))) c' e' f') := by
  refine ⟨some (true, .lst ((wordsP p).map D.str)), some (false, perD p), some (false, .non), ?_⟩
  have z := sizeLine_ge
  have hln := (lnP h).len
  have s0 : mSplit (mVar 5) (mC (.str " ")) (see [5] (rdE t ps [] (some (false, .int k)) (some (false, .str (lineOf (wordsP p)))) c e f)) = W.ret (true, .lst ((wordsP p).map D.str)) := split_eq (x := lineOf (wordsP p)) (b := " ") rfl rfl rfl (by omega) (lnP h).split
  refine (seq_nx (set_eq s0 (asg_imm (r := (true, .lst ((wordsP p).map D.str))) (imms_strs _)))).trans ?_
  refine (seq_nx (par2 (ρ1 := rdE t ps [] (some (false, .int k)) (some (false, .str (lineOf (wordsP p)))) (some (true, .lst ((wordsP p).map D.str))) (some (false, perD p)) f) (ρ2 := rdE t ps [] (some (false, .int k)) (some (false, .str (lineOf (wordsP p)))) (some (true, .lst ((wordsP p).map D.str))) (some (false, perD p)) (some (false, .non))) (call_eq (ds := [.lst ((wordsP p).map D.str)]) rfl rfl (person_in_eq h)) ((asg_imm (r := (false, perD p)) (imm_per p)).trans rfl) (call_eq (ds := [.lst ((wordsP p).map D.str)]) ?_ rfl (meeting_in_per p)) ((asg_imm (r := (false, .non)) rfl).trans rfl))).trans ?_
  · rcases e with _ | ⟨_, _⟩ <;> rfl
  refine (if_eq true (and_eq true true ?_ fun _ => rfl)).trans ?_
  · obtain ⟨n, w, s, sp⟩ := p; rfl
  · refine Eq.trans (app_eq (ds := ps.map perD) (d := perD p) rfl rfl (imm_per p) (by rw [List.length_map]; omega)) ?_
    unfold rdE
    rw [List.map_append]; rfl
theorem rdBody_met {t : Str} {ps : List Per} {ms : List Met} {m : Met} (h : MetT m) (hl : ms.length < 1000) (k : Nat) (c e f : Option (Bool × D)) :
    ∃ c' e' f', rd1B (rdE t ps ms (some (false, .int k)) (some (false, .str (lineOf (wordsM m)))) c e f) = W.ret (.nx, rdE t ps (ms ++ [m]) (some (false, .int k)) (some (false, .str (lineOf (wordsM m)))) c' e' f') := by
  refine ⟨some (true, .lst ((wordsM m).map D.str)), some (false, .non), some (false, metD m), ?_⟩
  have z := sizeLine_ge
  have hln := (lnM h).len
  have s0 : mSplit (mVar 5) (mC (.str " ")) (see [5] (rdE t ps ms (some (false, .int k)) (some (false, .str (lineOf (wordsM m)))) c e f)) = W.ret (true, .lst ((wordsM m).map D.str)) := split_eq (x := lineOf (wordsM m)) (b := " ") rfl rfl rfl (by omega) (lnM h).split
  refine (seq_nx (set_eq s0 (asg_imm (r := (true, .lst ((wordsM m).map D.str))) (imms_strs _)))).trans ?_
  refine (seq_nx (par2 (ρ1 := rdE t ps ms (some (false, .int k)) (some (false, .str (lineOf (wordsM m)))) (some (true, .lst ((wordsM m).map D.str))) (some (false, .non)) f) (ρ2 := rdE t ps ms (some (false, .int k)) (some (false, .str (lineOf (wordsM m)))) (some (true, .lst ((wordsM m).map D.str))) (some (false, .non)) (some (false, metD m))) (call_eq (ds := [.lst ((wordsM m).map D.str)]) rfl rfl (person_in_met m)) ((asg_imm (r := (false, .non)) rfl).trans rfl) (call_eq (ds := [.lst ((wordsM m).map D.str)]) ?_ rfl (meeting_in_eq h)) ((asg_imm (r := (false, metD m)) rfl).trans rfl))).trans ?_
  · rcases e with _ | ⟨_, _⟩ <;> rfl
  refine (if_eq false (and_eq false false rfl fun z => nomatch z)).trans ((if_eq true rfl).trans ?_)
  refine Eq.trans (app_eq (ds := ms.map metD) (d := metD m) rfl rfl rfl (by rw [List.length_map]; omega)) ?_
  unfold rdE
  rw [List.map_append]; rfl
theorem forN_cons {p : D → Option (List (Nat × D))} {b : En → WS} {d : D} {ds : List D} {ρ ρ' : En} {bs : List (Nat × D)} (h : p d = some bs) (h2 : b (setE ρ bs) = W.ret (.nx, ρ')) : forN p b (d :: ds) ρ = forN p b ds ρ' := by
  unfold forN
  rw [h]
  show W.bind (b (setE ρ bs)) _ = _
  rw [h2]
  cases ds <;> rfl
theorem rdLoop_met {t : Str} {ps : List Per} : ∀ (l ms : List Met) (k : Nat) (a b c e f : Option (Bool × D)), (∀ m ∈ l, MetT m) → ms.length + l.length ≤ 1000 →
    ∃ a' b' c' e' f', forN (pTup 2 (pCons (pName 4) (pCons (pName 5) pNil))) rd1B (enD k (l.map fun m => .str (lineOf (wordsM m)))) (rdE t ps ms a b c e f) = W.ret (.nx, rdE t ps (ms ++ l) a' b' c' e' f')
  | [], ms, k, a, b, c, e, f, _, _ => ⟨a, b, c, e, f, by rw [List.append_nil]; rfl⟩
  | m :: l, ms, k, a, b, c, e, f, h, hl => by
    rw [List.length_cons] at hl
    obtain ⟨c1, e1, f1, hb⟩ := rdBody_met (t := t) (ps := ps) (h m List.mem_cons_self) (show ms.length < 1000 by omega) k c e f
    obtain ⟨a', b', c', e', f', ih⟩ := rdLoop_met (t := t) (ps := ps) l (ms ++ [m]) (k + 1) (some (false, .int k)) (some (false, .str (lineOf (wordsM m)))) c1 e1 f1 (fun z hz => h z (List.mem_cons_of_mem _ hz)) (by rw [List.length_append]; simp; omega)
    refine ⟨a', b', c', e', f', (forN_cons (bs := [(4, .int k), (5, .str (lineOf (wordsM m)))]) rfl hb).trans ?_⟩
    rw [List.append_assoc] at ih
    exact ih
theorem rdLoop {t : Str} : ∀ (l ps : List Per) (ms : List Met) (k : Nat) (a b c e f : Option (Bool × D)), (∀ p ∈ l, PerT p) → (∀ m ∈ ms, MetT m) → ps.length + l.length ≤ 1000 → ms.length ≤ 1000 →
    ∃ a' b' c' e' f', forN (pTup 2 (pCons (pName 4) (pCons (pName 5) pNil))) rd1B (enD k ((l.map fun m => .str (lineOf (wordsP m))) ++ ms.map fun m => .str (lineOf (wordsM m)))) (rdE t ps [] a b c e f) = W.ret (.nx, rdE t (ps ++ l) ms a' b' c' e' f')
  | [], ps, ms, k, a, b, c, e, f, _, hm, _, hl => by
    rw [List.append_nil]
    exact rdLoop_met (t := t) ms [] k a b c e f hm (by simpa using hl)
  | p :: l, ps, ms, k, a, b, c, e, f, h, hm, hl, hl2 => by
    rw [List.length_cons] at hl
    obtain ⟨c1, e1, f1, hb⟩ := rdBody_per (t := t) (h p List.mem_cons_self) (show ps.length < 1000 by omega) k c e f
    obtain ⟨a', b', c', e', f', ih⟩ := rdLoop (t := t) l (ps ++ [p]) ms (k + 1) (some (false, .int k)) (some (false, .str (lineOf (wordsP p)))) c1 e1 f1 (fun z hz => h z (List.mem_cons_of_mem _ hz)) hm (by rw [List.length_append]; simp; omega) hl2
    refine ⟨a', b', c', e', f', (forN_cons (bs := [(4, .int k), (5, .str (lineOf (wordsP p)))]) rfl hb).trans ?_⟩
    rw [List.append_assoc] at ih
    exact ih
structure TextOk (P : Pl) : Prop where
  ok : P.Ok
  lp : P.ps.length ≤ 1000
  lm : P.ms.length ≤ 1000
  per : ∀ p ∈ P.ps, PerT p
  met : ∀ m ∈ P.ms, MetT m
def linesOf (P : Pl) : List Str := (P.ps.map fun p => lineOf (wordsP p)) ++ P.ms.map fun m => lineOf (wordsM m)
def textOf (P : Pl) : Str := Txt.join "\n" (linesOf P)
theorem TextOk.line {P : Pl} (h : TextOk P) : ∀ x ∈ linesOf P, x.length ≤ 120 ∧ 10 ∉ tl x := by
  intro x hx
  rcases List.mem_append.mp hx with hx | hx
  · obtain ⟨p, hp, rfl⟩ := List.mem_map.mp hx
    exact ⟨(lnP (h.per p hp)).len, (lnP (h.per p hp)).no10⟩
  · obtain ⟨m, hm, rfl⟩ := List.mem_map.mp hx
    exact ⟨(lnM (h.met m hm)).len, (lnM (h.met m hm)).no10⟩
theorem TextOk.sum {P : Pl} (h : TextOk P) : ((linesOf P).map (·.length)).sum + (linesOf P).length * ("\n" : Str).length ≤ 242000 := by
  have h1 := sum_le (l := linesOf P) (f := (·.length)) (B := 120) fun x hx => (h.line x hx).1
  have h2 : (linesOf P).length ≤ 2000 := by
    unfold linesOf
    rw [List.length_append, List.length_map, List.length_map]
    have := h.lp
    have := h.lm
    omega
  have e : ("\n" : Str).length = 1 := rfl
  rw [e]
  omega
theorem TextOk.len {P : Pl} (h : TextOk P) : (textOf P).length ≤ 242000 := Nat.le_trans (len_join _ _) h.sum
theorem TextOk.split {P : Pl} (h : TextOk P) : Txt.split (textOf P) "\n" = linesOf P := split_join (s := 10) (S := []) rfl (by decide +kernel) (fun e => by
  have := h.ok.ne
  unfold linesOf at e
  exact this (List.map_eq_nil_iff.mp (List.append_eq_nil_iff.mp e).1)) fun p hp => (h.line p hp).2
theorem read_eq {P : Pl} (h : TextOk P) : sem_Plan_read [.cls "Plan", .str (textOf P)] = W.ret (false, plD P) := by
  rw [rd_sem]
  have z : 242000 + 2 ≤ sizeLine := by rw [sizeLine_eq]; decide
  have hln := h.len
  obtain ⟨a, b, c, e, f, hloop⟩ := rdLoop (t := textOf P) P.ps [] P.ms 0 none none none none none h.per h.met (by simpa using h.lp) h.lm
  rw [List.nil_append] at hloop
  refine run_ret _ _ _ _ (rdE (textOf P) P.ps P.ms a b c e f) ?_
  have e0 : rd0 [some (false, .cls "Plan"), some (false, .str (textOf P)), none, none, none, none, none, none, none] = W.ret (.nx, rdE (textOf P) [] [] none none none none none) := par2 (ρ1 := [some (false, .cls "Plan"), some (false, .str (textOf P)), some (true, .lst []), none, none, none, none, none, none]) (r1 := (true, .lst [])) (r2 := (true, .lst [])) rfl rfl rfl rfl
  have e1 : mSplit (mVar 1) (mC (.str "\n")) (see [1] (rdE (textOf P) [] [] none none none none none)) = W.ret (true, .lst ((linesOf P).map D.str)) := split_eq (x := textOf P) (b := "\n") rfl rfl rfl (by omega) h.split
  have e2 : (mEnum (mCons (mDe (mSplit (mVar 1) (mC (.str "\n")))) mNil)) (see [1] (rdE (textOf P) [] [] none none none none none)) = W.ret (enD 0 ((linesOf P).map D.str)) := by
    unfold mEnum
    rw [cons_eq (de_eq e1) rfl]; rfl
  have el : (linesOf P).map D.str = (P.ps.map fun m => D.str (lineOf (wordsP m))) ++ P.ms.map fun m => D.str (lineOf (wordsM m)) := by
    unfold linesOf
    rw [List.map_append, List.map_map, List.map_map]; rfl
  rw [el] at e2
  refine (seq_nx e0).trans ((seq_nx ((for_eq e2).trans hloop)).trans (ret_eq ?_))
  show mMake "Plan" 3 sem_Plan___init__ [] (mCons (mVar 2) (mCons (mVar 3) mNil)) (ro (rdE (textOf P) P.ps P.ms a b c e f)) = _
  exact make_eq P h.ok false false rfl
end FbL
end

section
set_option Elab.async false
set_option linter.all false
set_option maxRecDepth 100000
set_option maxHeartbeats 1000000
namespace FbL
open PySem PySem.Spec PyProof.Rows L2 Fb TL
def tx0 : En → WS := (mSet [] 1 (mLst mNil))
def tx1B0 : En → WS := (mSet [5] 6 (mIfE (mTest (mOp (gIs false) (mVar 5) (mC .non))) (mDr (mC (.str "-"))) (mOpR gAdd (mDe (mOpR gAdd (mDe (mBlt (g1 strD) (mCons (mOp gIx (mVar 5) (mC (.int 0))) mNil))) (mC (.str " ")))) (mDe (mBlt (g1 strD) (mCons (mOp gIx (mVar 5) (mC (.int 1))) mNil))))))
def tx1B1 : En → WS := (mApp [2, 6, 3, 4] 1 (mJoin (mC (.str " ")) (mDe (mLst (mCons (mC (.str "person")) (mCons (mVar 2) (mCons (mDe (mBlt (g1 strD) (mCons (mVar 3) mNil))) (mCons (mDe (mBlt (g1 strD) (mCons (mVar 4) mNil))) (mCons (mVar 6) mNil)))))))))
def tx1B : En → WS := mSeq tx1B0 tx1B1
def tx1 : En → WS := (mFor [0] (mWalk (mOp gIx (mVar 0) (mC (.int 0)))) (pTup 4 (pCons (pName 2) (pCons (pName 3) (pCons (pName 4) (pCons (pName 5) pNil))))) tx1B)
def tx2 : En → WS := (mRet (mDr (mJoin (mC (.str "\n")) (mDe (mOpR gAdd (mVar 1) (mDe (mLc (mWalk (mOp gIx (mVar 0) (mC (.int 1)))) [7, 2, 8] (pTup 3 (pCons (pName 7) (pCons (pName 2) (pCons (pName 8) pNil)))) mYes (mJoin (mC (.str " ")) (mDe (mLst (mCons (mC (.str "meet")) (mCons (mDe (mBlt (g1 strD) (mCons (mVar 7) mNil))) (mCons (mVar 2) (mCons (mVar 8) mNil))))))))))))))
def tx : En → WS := mSeq tx0 (mSeq tx1 tx2)
theorem tx_sem : sem__law_text = runBody 9 tx := rfl
theorem add_str {x y : Str} (h : x.length + y.length ≤ sizeLine) : gAdd (.str x) (.str y) = W.ret (false, .str (x ++ y)) := by
  show (if x.length + y.length ≤ sizeLine then W.ret (false, D.str (x ++ y)) else W.fail) = _
  rw [if_pos h]
theorem add_lst {x y : List D} (h : x.length + y.length ≤ sizeLine) : gAdd (.lst x) (.lst y) = W.ret (true, .lst (x ++ y)) := by
  show (if x.length + y.length ≤ sizeLine then W.ret (true, D.lst (x ++ y)) else W.fail) = _
  rw [if_pos h]
theorem cmeth_eq {c : Str} {n : Nat} {sem : List D → Rt} {m : Ro → W Ex D} {a : Ro → W Ex (List D)} {ρ : Ro} {ds : List D} {r : Bool × D} (hm : m ρ = W.ret (.cls c)) (ha : a ρ = W.ret ds) (hn : ds.length + 1 = n) (h : sem (.cls c :: ds) = W.ret r) : mCmeth c n sem [] m a ρ = W.ret r := by
  unfold mCmeth
  rw [hm]
  show (W.got (if c = c then some () else none) fun _ => W.bind (a ρ) fun ds => if (D.cls c :: (ds ++ [])).length = n then sem (D.cls c :: (ds ++ [])) else W.fail) = _
  rw [if_pos rfl, ha]
  show (if (D.cls c :: (ds ++ [])).length = n then sem (D.cls c :: (ds ++ [])) else W.fail) = _
  rw [List.append_nil, if_pos (by rw [List.length_cons]; exact hn), h]
theorem joinm_eq {m n : Ro → W Ex D} {ρ : Ro} {x : Str} {parts : List Str} (hm : m ρ = W.ret (.str x)) (hn : n ρ = W.ret (.lst (parts.map D.str))) (hb : (parts.map (·.length)).sum + parts.length * x.length ≤ 16777216) : mJoin m n ρ = W.ret (.str (Txt.join x parts)) := by
  unfold mJoin
  rw [hm]
  show (W.bind (n ρ) fun e => W.got (seqOf e) fun xs => W.got (strsOf xs) fun ys => if (ys.map (·.length)).sum + ys.length * x.length ≤ 16777216 then W.ret (D.str (Txt.join x ys)) else W.fail) = _
  rw [hn]
  show (W.got (strsOf (parts.map D.str)) fun ys => if (ys.map (·.length)).sum + ys.length * x.length ≤ 16777216 then W.ret (D.str (Txt.join x ys)) else W.fail) = _
  rw [strsOf_map]
  show (if (parts.map (·.length)).sum + parts.length * x.length ≤ 16777216 then W.ret (D.str (Txt.join x parts)) else W.fail) = _
  rw [if_pos hb]
theorem str_eq {m : Ro → W Ex D} {ρ : Ro} {i : Int} (h : NumOk i) (hm : m ρ = W.ret (.int i)) : (mDe (mBlt (g1 strD) (mCons m mNil))) ρ = W.ret (.str (numI i)) :=
  de_eq (b := false) (blt_eq (ds := [.int i]) (cons_eq hm rfl) (by
    show (match strD (.int i) with | some e => W.ret (false, e) | none => W.fail) = _
    rw [h.str]))
def endsS : Option (Int × Int) → Str
  | none => "-"
  | some (a, b) => numI a ++ " " ++ numI b
theorem ends_join (x y z u : Str) (sp : Option (Int × Int)) : Txt.join " " [x, y, z, u, endsS sp] = Txt.join " " (x :: y :: z :: u :: endsW sp) := by
  rcases sp with _ | ⟨a, b⟩
  · rfl
  · refine ext_tl ?_
    rw [join_eq, join_eq, tl_join, tl_join]
    show tl x ++ (tl (" " : Str) ++ (tl y ++ (tl (" " : Str) ++ (tl z ++ (tl (" " : Str) ++ (tl u ++ (tl (" " : Str) ++ tl (numI a ++ " " ++ numI b)))))))) = tl x ++ (tl (" " : Str) ++ (tl y ++ (tl (" " : Str) ++ (tl z ++ (tl (" " : Str) ++ (tl u ++ (tl (" " : Str) ++ (tl (numI a) ++ (tl (" " : Str) ++ tl (numI b))))))))))
    rw [tl_append, tl_append, List.append_assoc]
theorem Ln.fit {ws : List Str} (h : Ln ws) : (ws.map (·.length)).sum + ws.length * (" " : Str).length ≤ 16777216 := by
  have := h.sum
  have := h.few
  have e : (" " : Str).length = 1 := rfl
  rw [e]; omega
theorem len_app (x y : Str) : (x ++ y).length = x.length + y.length := by rw [len_tl, tl_append, List.length_append, ← len_tl, ← len_tl]
theorem ends_len {p : Per} (h : PerT p) : (endsS p.sp).length ≤ 39 := by
  rcases e : p.sp with _ | ⟨a, b⟩
  · decide
  · obtain ⟨ha, hb⟩ := h.sp a b e
    have := ha.len
    have := hb.len
    show (numI a ++ " " ++ numI b).length ≤ 39
    rw [len_app, len_app]
    have e : (" " : Str).length = 1 := rfl
    rw [e]; omega
def txE (A : D) (acc : List Str) (a b c e f : Option (Bool × D)) : En := [some (false, A), some (true, .lst (acc.map D.str)), a, b, c, e, f, none, none]
theorem txBody_eq {A : D} {acc : List Str} {p : Per} (h : PerT p) (hl : acc.length < 1000) (f : Option (Bool × D)) :
    tx1B (txE A acc (some (false, .str p.nm)) (some (false, .int p.w)) (some (false, .int p.s)) (some (false, spD p.sp)) f) = W.ret (.nx, txE A (acc ++ [lineOf (wordsP p)]) (some (false, .str p.nm)) (some (false, .int p.w)) (some (false, .int p.s)) (some (false, spD p.sp)) (some (false, .str (endsS p.sp)))) := by
  have z := sizeLine_ge
  have e0 : tx1B0 (txE A acc (some (false, .str p.nm)) (some (false, .int p.w)) (some (false, .int p.s)) (some (false, spD p.sp)) f) = W.ret (.nx, txE A acc (some (false, .str p.nm)) (some (false, .int p.w)) (some (false, .int p.s)) (some (false, spD p.sp)) (some (false, .str (endsS p.sp)))) := by
    refine set_eq (r := (false, .str (endsS p.sp))) ?_ (asg_imm rfl)
    rcases e : p.sp with _ | ⟨a, b⟩
    · rfl
    · obtain ⟨ha, hb⟩ := h.sp a b e
      show (mOpR gAdd (mDe (mOpR gAdd (mDe (mBlt (g1 strD) (mCons (mOp gIx (mVar 5) (mC (.int 0))) mNil))) (mC (.str " ")))) (mDe (mBlt (g1 strD) (mCons (mOp gIx (mVar 5) (mC (.int 1))) mNil)))) (see [5] (txE A acc (some (false, .str p.nm)) (some (false, .int p.w)) (some (false, .int p.s)) (some (false, spD (some (a, b)))) f)) = _
      have ha' := ha.len
      have hb' := hb.len
      have e1 : (" " : Str).length = 1 := rfl
      refine opR_eq (a := .str (numI a ++ " ")) (b := .str (numI b)) (de_eq (b := false) (opR_eq (a := .str (numI a)) (b := .str " ") (str_eq ha rfl) rfl ?_)) (str_eq hb rfl) ?_
      · exact add_str (by rw [e1]; omega)
      · exact add_str (by rw [len_app, e1]; omega)
  refine (seq_nx e0).trans ?_
  have hj : mJoin (mC (.str " ")) (mDe (mLst (mCons (mC (.str "person")) (mCons (mVar 2) (mCons (mDe (mBlt (g1 strD) (mCons (mVar 3) mNil))) (mCons (mDe (mBlt (g1 strD) (mCons (mVar 4) mNil))) (mCons (mVar 6) mNil))))))) (see [2, 6, 3, 4] (txE A acc (some (false, .str p.nm)) (some (false, .int p.w)) (some (false, .int p.s)) (some (false, spD p.sp)) (some (false, .str (endsS p.sp))))) = W.ret (.str (lineOf (wordsP p))) := by
    have el : lineOf (wordsP p) = Txt.join " " ["person", p.nm, numI p.w, numI p.s, endsS p.sp] := (ends_join "person" p.nm (numI p.w) (numI p.s) p.sp).symm
    rw [el]
    refine joinm_eq (parts := ["person", p.nm, numI p.w, numI p.s, endsS p.sp]) rfl (de_eq (b := true) (lst_eq (cons_eq rfl (cons_eq rfl (cons_eq (str_eq h.w rfl) (cons_eq (str_eq h.s rfl) (cons_eq rfl rfl))))) (small (by simp)))) ?_
    have h1 := name_len h.nm
    have h2 := h.w.len
    have h3 := h.s.len
    have h4 := ends_len h
    have e : (" " : Str).length = 1 := rfl
    have e2 : ("person" : Str).length = 6 := rfl
    simp only [List.map_cons, List.map_nil, List.sum_cons, List.sum_nil, List.length_cons, List.length_nil, e, e2]
    omega
  refine Eq.trans (app_eq (ds := acc.map D.str) (d := .str (lineOf (wordsP p))) rfl hj rfl (by rw [List.length_map]; omega)) ?_
  unfold txE
  rw [List.map_append]; rfl
theorem txLoop {A : D} : ∀ (l : List Per) (acc : List Str) (a b c e f : Option (Bool × D)), (∀ p ∈ l, PerT p) → acc.length + l.length ≤ 1000 →
    ∃ a' b' c' e' f', forN (pTup 4 (pCons (pName 2) (pCons (pName 3) (pCons (pName 4) (pCons (pName 5) pNil))))) tx1B (l.map perD) (txE A acc a b c e f) = W.ret (.nx, txE A (acc ++ l.map fun p => lineOf (wordsP p)) a' b' c' e' f')
  | [], acc, a, b, c, e, f, _, _ => ⟨a, b, c, e, f, by rw [List.map_nil, List.map_nil, List.append_nil]; rfl⟩
  | p :: l, acc, a, b, c, e, f, h, hl => by
    rw [List.length_cons] at hl
    have hb := txBody_eq (A := A) (h p List.mem_cons_self) (show acc.length < 1000 by omega) f
    obtain ⟨a', b', c', e', f', ih⟩ := txLoop (A := A) l (acc ++ [lineOf (wordsP p)]) (some (false, .str p.nm)) (some (false, .int p.w)) (some (false, .int p.s)) (some (false, spD p.sp)) (some (false, .str (endsS p.sp))) (fun z hz => h z (List.mem_cons_of_mem _ hz)) (by rw [List.length_append]; simp; omega)
    refine ⟨a', b', c', e', f', (forN_cons (bs := [(2, .str p.nm), (3, .int p.w), (4, .int p.s), (5, spD p.sp)]) rfl hb).trans ?_⟩
    rw [List.append_assoc] at ih
    exact ih
theorem text_eq {P : Pl} (h : TextOk P) : sem__law_text [toldD P] = W.ret (false, .str (textOf P)) := by
  rw [tx_sem]
  have z : 242000 + 2 ≤ sizeLine := by rw [sizeLine_eq]; decide
  have z2 := sizeLine_ge
  obtain ⟨a, b, c, e, f, hloop⟩ := txLoop (A := toldD P) P.ps [] none none none none none h.per (by simpa using h.lp)
  rw [List.nil_append] at hloop
  refine run_ret _ _ _ _ (txE (toldD P) (P.ps.map fun p => lineOf (wordsP p)) a b c e f) ?_
  have e0 : tx0 [some (false, toldD P), none, none, none, none, none, none, none, none] = W.ret (.nx, txE (toldD P) [] none none none none none) := set_eq (r := (true, .lst [])) rfl (asg_imm rfl)
  refine (seq_nx e0).trans ((seq_nx ((for_eq (ds := P.ps.map perD) rfl).trans hloop)).trans (ret_eq (dr_eq ?_)))
  refine joinm_eq (parts := linesOf P) rfl (de_eq (b := true) (opR_eq (a := .lst ((P.ps.map fun p => lineOf (wordsP p)).map D.str)) (b := .lst ((P.ms.map fun m => lineOf (wordsM m)).map D.str)) rfl (de_eq (b := true) (lc_eq (xs := P.ms.map metD) rfl (by rw [List.length_map]; have := h.lm; omega) ?_)) ?_)) (Nat.le_trans h.sum (by decide))
  · rw [lcN_all (fun d => match d with | .tup [.int i, .str x, .str y] => .str (lineOf (wordsM ⟨i, x, y⟩)) | _ => .non) fun d hd => by
      obtain ⟨m, hm, rfl⟩ := List.mem_map.mp hd
      refine ⟨[(7, .int m.day), (2, .str m.one), (8, .str m.other)], rfl, ?_⟩
      have hm := h.met m hm
      refine joinm_eq (parts := wordsM m) rfl (de_eq (b := true) (lst_eq (ds := (wordsM m).map D.str) (cons_eq rfl (cons_eq (str_eq hm.day ?_) (cons_eq ?_ (cons_eq ?_ rfl)))) (small (by simp [wordsM])))) (lnM hm).fit
      · rcases a with _ | ⟨_, _⟩ <;> rcases b with _ | ⟨_, _⟩ <;> rcases c with _ | ⟨_, _⟩ <;> rcases e with _ | ⟨_, _⟩ <;> rcases f with _ | ⟨_, _⟩ <;> rfl
      · rcases a with _ | ⟨_, _⟩ <;> rcases b with _ | ⟨_, _⟩ <;> rcases c with _ | ⟨_, _⟩ <;> rcases e with _ | ⟨_, _⟩ <;> rcases f with _ | ⟨_, _⟩ <;> rfl
      · rcases a with _ | ⟨_, _⟩ <;> rcases b with _ | ⟨_, _⟩ <;> rcases c with _ | ⟨_, _⟩ <;> rcases e with _ | ⟨_, _⟩ <;> rcases f with _ | ⟨_, _⟩ <;> rfl]
    rw [List.map_map, List.map_map]; rfl
  · unfold linesOf
    rw [List.map_append]
    exact add_lst (by rw [List.length_map, List.length_map, List.length_map, List.length_map]; have := h.lp; have := h.lm; omega)
theorem made_eq {P : Pl} (h : TextOk P) : sem__law_made [toldD P] = W.ret (false, plD P) := by
  refine run_ret _ _ _ _ [some (false, toldD P)] (ret_eq ?_)
  exact cmeth_eq (ds := [.str (textOf P)]) rfl (cons_eq (de_eq (call_eq (ds := [toldD P]) rfl rfl (text_eq h))) rfl) rfl (read_eq h)
theorem Drawn.text {P : Pl} (h : Drawn P) : TextOk P := by
  refine ⟨h.ok, Nat.le_trans h.most (by decide), Nat.le_trans h.few (by decide), fun p hp => ?_, fun m hm => ?_⟩
  · have d := h.per p hp
    exact ⟨seven_ok _ (h.nm _ (List.mem_map_of_mem hp)), ⟨by have := d.w1; omega, by have := d.w3; omega⟩, ⟨d.s0, by have := d.s3; omega⟩, fun a b e => by
      obtain ⟨h1, h2, h3, h4⟩ := d.sp a b e
      exact ⟨⟨h1, by omega⟩, ⟨by omega, by omega⟩⟩⟩
  · obtain ⟨h0, h1, _, h3, h4⟩ := h.met m hm
    exact ⟨⟨h0, by omega⟩, seven_ok _ (h.nm _ h3), seven_ok _ (h.nm _ h4)⟩
end FbL
end

section
set_option Elab.async false
set_option linter.all false
set_option maxRecDepth 100000
set_option maxHeartbeats 1000000
namespace FbL
open PySem PySem.Spec PyProof.Rows L2 Fb TL
def wl0 : En → WS := (mSet [] 1 (mLst (mCons (mDe mDic0) mNil)))
def wl1B0 : En → WS := (mSet [1] 6 (mBlt (gList) (mCons (mVar 1) mNil)))
def wl1B1B0 : En → WS := (mExt [1, 2, 7] 6 (mDe (mLc (mWalk (mVar 1)) [8] (pName 8) mYes (mDe (mBlt (gDictP) (mCons (mDe (mOpR gAdd (mDe (mListItems (mVar 8))) (mDe (mLst (mCons (mTup (mCons (mVar 2) (mCons (mVar 7) mNil))) mNil))))) mNil))))))
def wl1B1B : En → WS := wl1B1B0
def wl1B1 : En → WS := (mFor [5] (mWalk (mDe (mIfE (mTest (mOp (gIs true) (mVar 5) (mC .non))) (mListRg2 (mOp gIx (mVar 5) (mC (.int 0))) (mDe (mOpR gAdd (mOp gIx (mVar 5) (mC (.int 1))) (mC (.int 1))))) (mLst mNil)))) (pName 7) wl1B1B)
def wl1B2 : En → WS := (mSet [6] 1 (mDr (mVar 6)))
def wl1B : En → WS := mSeq wl1B0 (mSeq wl1B1 wl1B2)
def wl1 : En → WS := (mFor [0] (mWalk (mOp gIx (mVar 0) (mC (.int 0)))) (pTup 4 (pCons (pName 2) (pCons (pName 3) (pCons (pName 4) (pCons (pName 5) pNil))))) wl1B)
def wl2 : En → WS := (mRetV 1)
def wl : En → WS := mSeq wl0 (mSeq wl1 wl2)
theorem wl_sem : sem__law_worlds = runBody 9 wl := rfl
abbrev Wl := List (Str × Int)
def wD (ws : Wl) : D := .dic (ws.map fstK)
def grow (found : List Wl) (n : Str) (d : Int) : List Wl := found.map (· ++ [(n, d)])
def daysOf : Option (Int × Int) → List Int
  | none => []
  | some (lo, hi) => (List.range (hi + 1 - lo).toNat).map fun k : Nat => lo + (k : Int)
def wstep (found : List Wl) (p : Per) : List Wl := found ++ (daysOf p.sp).flatMap (grow found p.nm)
def worldsM (ps : List Per) : List Wl := ps.foldl wstep [[]]
theorem mem_daysOf {sp : Option (Int × Int)} {d : Int} : d ∈ daysOf sp ↔ ∃ lo hi, sp = some (lo, hi) ∧ lo ≤ d ∧ d ≤ hi := by
  rcases sp with _ | ⟨lo, hi⟩
  · exact ⟨fun h => (nomatch h), fun ⟨_, _, h, _⟩ => (nomatch h)⟩
  · constructor
    · intro h
      obtain ⟨k, hk, rfl⟩ := List.mem_map.mp h
      have := List.mem_range.mp hk
      exact ⟨lo, hi, rfl, by omega, by omega⟩
    · rintro ⟨_, _, h, h1, h2⟩
      cases h
      exact List.mem_map.mpr ⟨(d - lo).toNat, List.mem_range.mpr (by omega), by omega⟩
theorem merge_app : ∀ (kvs acc : List (Key × D)), ((acc ++ kvs).map (·.1)).Nodup → mergeD acc kvs = acc ++ kvs
  | [], acc, _ => (List.append_nil _).symm
  | kv :: kvs, acc, h => by
    have hn : lookK acc kv.1 = none := by
      have : kv.1 ∉ acc.map (·.1) := fun z => by
        rw [List.map_append, List.map_cons] at h
        exact (List.nodup_append.mp h).2.2 _ z _ List.mem_cons_self rfl
      have : ∀ l : List (Key × D), kv.1 ∉ l.map (·.1) → lookK l kv.1 = none := by
        intro l
        induction l with
        | nil => intro _; rfl
        | cons x l ih =>
          intro hx
          rw [List.map_cons] at hx
          show (if x.1 = kv.1 then some x.2 else lookK l kv.1) = none
          rw [if_neg (show ¬ x.1 = kv.1 from fun e => hx (by rw [← e]; exact List.mem_cons_self)), ih fun z => hx (List.mem_cons_of_mem _ z)]
      exact this acc (by assumption)
    show mergeD (putD acc kv.1 kv.2) kvs = _
    rw [put_none hn, merge_app kvs (acc ++ [kv]) (by rw [List.append_assoc]; exact h), List.append_assoc]; rfl
theorem pairs_fst : ∀ ws : Wl, pairsOf (ws.map fun w => Fb.pairD (fstK w)) = some (ws.map fstK)
  | [] => rfl
  | w :: ws => by
    show (match asPair (Fb.pairD (fstK w)), pairsOf (ws.map fun w => Fb.pairD (fstK w)) with
    | some x, some ys => some (x :: ys)
    | _, _ => none) = _
    rw [pairs_fst ws]; rfl
theorem keys_nodup {ws : Wl} (h : (ws.map (·.1)).Nodup) : ((ws.map fstK).map (·.1)).Nodup := by
  have := inrs_nodup h
  rw [List.map_map] at this ⊢
  exact this
theorem dictP_world {ws : Wl} (h : (ws.map (·.1)).Nodup) : gDictP [.lst (ws.map fun w => Fb.pairD (fstK w))] = W.ret (true, wD ws) := by
  show (W.got (pairsOf _) fun kvs => W.ret (true, D.dic (mergeD [] kvs))) = _
  rw [pairs_fst]
  show W.ret (true, D.dic (mergeD [] (ws.map fstK))) = _
  rw [merge_app _ [] (by rw [List.nil_append]; exact keys_nodup h), List.nil_append]; rfl
def opI (h : Option Int) : Option (Bool × D) := h.map fun d => (false, .int d)
def wlE (A : D) (f1 : Bool) (found : List Wl) (p : Per) (g : Option (Bool × D)) (h : Option Int) : En := [some (false, A), some (f1, .lst (found.map wD)), some (false, .str p.nm), some (false, .int p.w), some (false, .int p.s), some (false, spD p.sp), g, opI h, none]
theorem imms_worlds {found : List Wl} (h : found ≠ []) : imms (found.map wD) = false := by
  cases found with
  | nil => exact absurd rfl h
  | cons a l => rfl
theorem asg_frz {fz : List Nat} {i : Nat} {r : Bool × D} {ρ : En} (h : (if r.1 then immTop r.2 else imm r.2) = false) : asg fz i r ρ = (frz fz ρ).set i (some r) := by
  unfold asg
  rw [h]; rfl
theorem grow_eq {found : List Wl} {n : Str} {d : Int} {ρ : Ro} (hl : found.length ≤ 1000000) (h1 : ρ[1]? = some (some (.lst (found.map wD)))) (h2 : ∀ x, mVar 2 (setR (wipeR ρ [8]) [(8, x)]) = W.ret (.str n)) (h7 : ∀ x, mVar 7 (setR (wipeR ρ [8]) [(8, x)]) = W.ret (.int d)) (h8 : ∀ x, mVar 8 (setR (wipeR ρ [8]) [(8, x)]) = W.ret x) (hw : ∀ ws ∈ found, ws.length ≤ 1000 ∧ ((ws ++ [(n, d)]).map (·.1)).Nodup) :
    (mDe (mLc (mWalk (mVar 1)) [8] (pName 8) mYes (mDe (mBlt (gDictP) (mCons (mDe (mOpR gAdd (mDe (mListItems (mVar 8))) (mDe (mLst (mCons (mTup (mCons (mVar 2) (mCons (mVar 7) mNil))) mNil))))) mNil))))) ρ = W.ret (.lst ((grow found n d).map wD)) := by
  have z : 1000000 ≤ sizeLine := by rw [sizeLine_eq]; decide
  refine de_eq (b := true) (lc_eq (xs := found.map wD) (walk_eq (d := .lst (found.map wD)) (by unfold mVar; rw [h1]; rfl) rfl) (by rw [List.length_map]; omega) ?_)
  rw [lcN_all (fun x => match x with | .dic kvs => .dic (kvs ++ [fstK (n, d)]) | _ => .non) fun x hx => by
    obtain ⟨ws, hws, rfl⟩ := List.mem_map.mp hx
    obtain ⟨hw1, hw2⟩ := hw ws hws
    refine ⟨[(8, wD ws)], rfl, ?_⟩
    have e1 : mListItems (mVar 8) (setR (wipeR ρ [8]) [(8, wD ws)]) = W.ret (true, .lst (ws.map fun w => Fb.pairD (fstK w))) := by
      unfold mListItems
      rw [h8]
      show W.ret (true, D.lst ((ws.map fstK).map Fb.pairD)) = _
      rw [List.map_map]; rfl
    have e2 : mLst (mCons (mTup (mCons (mVar 2) (mCons (mVar 7) mNil))) mNil) (setR (wipeR ρ [8]) [(8, wD ws)]) = W.ret (true, .lst [.tup [.str n, .int d]]) :=
      lst_eq (cons_eq (tup_eq (cons_eq (h2 _) (cons_eq (h7 _) rfl)) (small (by show 2 ≤ 1000; decide))) rfl) (small (by show 1 ≤ 1000; decide))
    have e3 := add_lst (x := ws.map fun w => Fb.pairD (fstK w)) (y := [.tup [.str n, .int d]]) (by rw [List.length_map]; simp; omega)
    have e4 : (ws.map fun w => Fb.pairD (fstK w)) ++ [D.tup [.str n, .int d]] = (ws ++ [(n, d)]).map fun w => Fb.pairD (fstK w) := by rw [List.map_append]; rfl
    rw [e4] at e3
    refine (de_eq (blt_eq (ds := [.lst ((ws ++ [(n, d)]).map fun w => Fb.pairD (fstK w))]) (cons_eq (de_eq (opR_eq (de_eq e1) (de_eq e2) e3)) rfl) (dictP_world hw2))).trans ?_
    unfold wD
    rw [List.map_append]; rfl]
  refine congrArg W.ret ?_
  unfold grow
  rw [List.map_map, List.map_map]
  refine List.map_congr_left fun ws _ => ?_
  show D.dic (ws.map fstK ++ [fstK (n, d)]) = D.dic ((ws ++ [(n, d)]).map fstK)
  rw [List.map_append]; rfl
theorem ext_eq {fz : List Nat} {i : Nat} {m : Ro → W Ex D} {ρ ρ' : En} {ds es : List D} (h0 : ρ[i]? = some (some (true, .lst ds))) (hm : m (see fz ρ) = W.ret (.lst es)) (ht : taks fz i es ρ = some ρ') (hl : ds.length + es.length ≤ sizeLine) : mExt fz i m ρ = W.ret (.nx, ρ'.set i (some (true, .lst (ds ++ es)))) := by
  unfold mExt
  rw [h0]
  show (W.bind (up ρ (m (see fz ρ))) fun d => W.got (asL d) fun es => W.got (taks fz i es ρ) fun ρ' => if ds.length + es.length ≤ sizeLine then W.ret (Fl.nx, ρ'.set i (some (true, D.lst (ds ++ es)))) else W.fail) = _
  rw [hm]
  show (W.got (taks fz i es ρ) fun ρ' => if ds.length + es.length ≤ sizeLine then W.ret (Fl.nx, ρ'.set i (some (true, D.lst (ds ++ es)))) else W.fail) = _
  rw [ht]
  show (if ds.length + es.length ≤ sizeLine then W.ret (Fl.nx, ρ'.set i (some (true, D.lst (ds ++ es)))) else W.fail) = _
  rw [if_pos hl]
theorem wlLoop1 {A : D} {found : List Wl} {p : Per} (hne : found ≠ []) (hl : found.length ≤ 1000000) : ∀ (l : List Int) (wider : List Wl) (h : Option Int), wider.length + found.length * l.length ≤ 1000000 → (∀ d ∈ l, ∀ ws ∈ found, ws.length ≤ 1000 ∧ ((ws ++ [(p.nm, d)]).map (·.1)).Nodup) →
    ∃ h', forN (pName 7) wl1B1B (l.map D.int) (wlE A false found p (some (true, .lst (wider.map wD))) h) = W.ret (.nx, wlE A false found p (some (true, .lst ((wider ++ l.flatMap (grow found p.nm)).map wD))) h')
  | [], wider, h, _, _ => ⟨h, by rw [List.flatMap_nil, List.append_nil]; rfl⟩
  | d :: l, wider, h, hw, hn => by
    have z : 1000000 ≤ sizeLine := by rw [sizeLine_eq]; decide
    rw [List.length_cons, Nat.mul_add, Nat.mul_one] at hw
    have gl : (grow found p.nm d).length = found.length := by unfold grow; rw [List.length_map]
    obtain ⟨h', ih⟩ := wlLoop1 (A := A) hne hl l (wider ++ grow found p.nm d) (some d) (by rw [List.length_append, gl]; omega) fun d hd => hn d (List.mem_cons_of_mem _ hd)
    refine ⟨h', (forN_cons (bs := [(7, .int d)]) (ρ' := wlE A false found p (some (true, .lst ((wider ++ grow found p.nm d).map wD))) (some d)) rfl ?_).trans ?_⟩
    · have hg := grow_eq (found := found) (n := p.nm) (d := d) (ρ := see [1, 2, 7] (wlE A false found p (some (true, .lst (wider.map wD))) (some d))) hl rfl (fun _ => rfl) (fun _ => rfl) (fun _ => rfl) fun ws hws => hn d List.mem_cons_self ws hws
      refine (ext_eq (i := 6) (ds := wider.map wD) (es := (grow found p.nm d).map wD) (ρ := wlE A false found p (some (true, .lst (wider.map wD))) (some d)) (ρ' := wlE A false found p (some (true, .lst (wider.map wD))) (some d)) rfl hg ?_ ?_).trans ?_
      · unfold taks
        rw [if_neg (by rw [imms_worlds (by intro e; rw [e] at gl; exact hne (List.length_eq_zero_iff.mp gl.symm))]; exact Bool.false_ne_true), if_neg (by decide)]; rfl
      · rw [List.length_map, List.length_map, gl]; omega
      · unfold wlE
        rw [List.map_append]; rfl
    · rw [List.flatMap_cons, ← List.append_assoc]
      exact ih
end FbL
end

section
set_option Elab.async false
set_option linter.all false
set_option maxRecDepth 100000
set_option maxHeartbeats 1000000
namespace FbL
open PySem PySem.Spec PyProof.Rows L2 Fb TL
def opL (g : Option (List D)) : Option (Bool × D) := g.map fun d => (false, .lst d)
structure Sml (p : Per) : Prop where
  few : (daysOf p.sp).length ≤ 4
  rg : ∀ lo hi, p.sp = some (lo, hi) → RgOk lo (hi + 1)
theorem wlBody_eq {A : D} {f1 : Bool} {found : List Wl} {p : Per} (hne : found ≠ []) (hl : found.length * 5 ≤ 1000000) (hp : Sml p) (hn : ∀ (d : Int), ∀ ws ∈ found, ws.length ≤ 1000 ∧ ((ws ++ [(p.nm, d)]).map (·.1)).Nodup) (g : Option (List D)) (h : Option Int) :
    ∃ h', wl1B (wlE A f1 found p (opL g) h) = W.ret (.nx, wlE A false (wstep found p) p (opL (some ((wstep found p).map wD))) h') := by
  have hlen : (found.length * (daysOf p.sp).length) ≤ found.length * 4 := Nat.mul_le_mul_left _ hp.few
  obtain ⟨h', hloop⟩ := wlLoop1 (A := A) (p := p) hne (by omega) (daysOf p.sp) found h (by omega) fun d _ ws hws => hn d ws hws
  refine ⟨h', ?_⟩
  have e0 : wl1B0 (wlE A f1 found p (opL g) h) = W.ret (.nx, wlE A false found p (some (true, .lst (found.map wD))) h) := by
    refine set_eq (r := (true, .lst (found.map wD))) (by cases f1 <;> rfl) ((asg_frz (r := (true, .lst (found.map wD))) (imms_worlds hne)).trans ?_)
    rcases g with _ | g <;> rcases h with _ | h <;> cases f1 <;> rfl
  have e1 : (mWalk (mDe (mIfE (mTest (mOp (gIs true) (mVar 5) (mC .non))) (mListRg2 (mOp gIx (mVar 5) (mC (.int 0))) (mDe (mOpR gAdd (mOp gIx (mVar 5) (mC (.int 1))) (mC (.int 1))))) (mLst mNil)))) (see [5] (wlE A false found p (some (true, .lst (found.map wD))) h)) = W.ret ((daysOf p.sp).map D.int) := by
    rcases e : p.sp with _ | ⟨lo, hi⟩
    · unfold wlE
      rw [e]; rfl
    · unfold wlE
      rw [e]
      have hr := hp.rg lo hi e
      refine walk_eq (d := .lst (rngD lo (hi + 1 - lo).toNat)) (de_eq (b := true) ?_) ?_
      · show (if RgOk lo (hi + 1) then W.ret (true, D.lst (rngD lo (hi + 1 - lo).toNat)) else W.fail) = _
        rw [if_pos hr]
      · show W.ret (rngD lo (hi + 1 - lo).toNat) = _
        refine congrArg W.ret ?_
        unfold rngD daysOf
        rw [List.map_map]; rfl
  have e2 : frz [5] (wlE A false found p (some (true, .lst (found.map wD))) h) = wlE A false found p (some (true, .lst (found.map wD))) h := by
    rcases h with _ | h <;> rfl
  have wne : wstep found p ≠ [] := fun z => hne (List.append_eq_nil_iff.mp z).1
  have e3 : wl1B2 (wlE A false found p (some (true, .lst ((wstep found p).map wD))) h') = W.ret (.nx, wlE A false (wstep found p) p (opL (some ((wstep found p).map wD))) h') := by
    refine set_eq (r := (false, .lst ((wstep found p).map wD))) (dr_eq rfl) ((asg_frz (r := (false, .lst ((wstep found p).map wD))) rfl).trans ?_)
    rcases h' with _ | h' <;> rfl
  refine (seq_nx e0).trans ((seq_nx ((for_eq e1).trans ?_)).trans e3)
  rw [e2]
  exact hloop
theorem grow_len {found : List Wl} {n : Str} {l : List Int} : (l.flatMap (grow found n)).length = l.length * found.length := by
  induction l with
  | nil => simp
  | cons d l ih =>
    rw [List.flatMap_cons, List.length_append, ih, List.length_cons, Nat.add_mul, Nat.one_mul]
    unfold grow
    rw [List.length_map]; omega
theorem wstep_len {found : List Wl} {p : Per} (hp : Sml p) : (wstep found p).length ≤ found.length * 5 := by
  unfold wstep
  rw [List.length_append, grow_len]
  have := Nat.mul_le_mul_right found.length hp.few
  omega
/-- worlds of some of the people: those of done -/
structure WIn (done : List Per) (ws : Wl) : Prop where
  len : ws.length ≤ done.length
  nd : (ws.map (·.1)).Nodup
  ok : ∀ w ∈ ws, ∃ p ∈ done, p.nm = w.1 ∧ ∃ lo hi, p.sp = some (lo, hi) ∧ lo ≤ w.2 ∧ w.2 ≤ hi
theorem WIn.step {done : List Per} {p : Per} (hnd : p.nm ∉ done.map (·.nm)) {found : List Wl} (h : ∀ ws ∈ found, WIn done ws) : ∀ ws ∈ wstep found p, WIn (done ++ [p]) ws := by
  intro ws hws
  rcases List.mem_append.mp hws with hws | hws
  · have i := h ws hws
    exact ⟨by rw [List.length_append]; have := i.len; simp; omega, i.nd, fun w hw => let ⟨q, hq, r⟩ := i.ok w hw; ⟨q, List.mem_append_left _ hq, r⟩⟩
  · obtain ⟨d, hd, hws⟩ := List.mem_flatMap.mp hws
    obtain ⟨ws', hws', rfl⟩ := List.mem_map.mp hws
    have i := h ws' hws'
    refine ⟨by rw [List.length_append, List.length_append]; have := i.len; simp; omega, ?_, fun w hw => ?_⟩
    · rw [List.map_append]
      refine List.nodup_append.mpr ⟨i.nd, (by simp), fun x hx y hy e => ?_⟩
      cases List.mem_singleton.mp hy
      obtain ⟨w, hw, rfl⟩ := List.mem_map.mp hx
      obtain ⟨q, hq, e2, _⟩ := i.ok w hw
      exact hnd (List.mem_map.mpr ⟨q, hq, e2.trans e⟩)
    · rcases List.mem_append.mp hw with hw | hw
      · obtain ⟨q, hq, r⟩ := i.ok w hw
        exact ⟨q, List.mem_append_left _ hq, r⟩
      · cases List.mem_singleton.mp hw
        obtain ⟨lo, hi, e, h1, h2⟩ := mem_daysOf.mp hd
        exact ⟨p, by simp, rfl, lo, hi, e, h1, h2⟩
theorem worldsIn : ∀ (l done : List Per) (found : List Wl), ((done ++ l).map (·.nm)).Nodup → (∀ ws ∈ found, WIn done ws) → ∀ ws ∈ l.foldl wstep found, WIn (done ++ l) ws
  | [], done, found, _, h, ws, hws => by rw [List.append_nil]; exact h ws hws
  | p :: l, done, found, nd, h, ws, hws => by
    have hp : p.nm ∉ done.map (·.nm) := fun z => by
      rw [List.map_append, List.map_cons] at nd
      exact (List.nodup_append.mp nd).2.2 _ z _ List.mem_cons_self rfl
    have := worldsIn l (done ++ [p]) (wstep found p) (by rw [List.append_assoc]; exact nd) (WIn.step hp h) ws hws
    rw [List.append_assoc] at this
    exact this
theorem worldsM_in {ps : List Per} (nd : (ps.map (·.nm)).Nodup) : ∀ ws ∈ worldsM ps, WIn ps ws := fun ws hws => by
  have := worldsIn ps [] [[]] nd (fun ws h => by
    cases List.mem_singleton.mp h
    exact ⟨Nat.le_refl _, List.nodup_nil, fun w hw => nomatch hw⟩) ws hws
  exact this
theorem wfold_ne : ∀ (l : List Per) (found : List Wl), found ≠ [] → l.foldl wstep found ≠ []
  | [], found, h => h
  | p :: l, found, h => wfold_ne l (wstep found p) fun z => h (List.append_eq_nil_iff.mp z).1
theorem worldsM_ne (ps : List Per) : worldsM ps ≠ [] := wfold_ne ps [[]] (by simp)
theorem wfold_len : ∀ (l : List Per) (found : List Wl), (∀ p ∈ l, Sml p) → (l.foldl wstep found).length ≤ found.length * 5 ^ l.length
  | [], found, _ => by simp
  | p :: l, found, h => by
    rw [List.length_cons, Nat.pow_succ]
    refine Nat.le_trans (wfold_len l (wstep found p) fun z hz => h z (List.mem_cons_of_mem _ hz)) ?_
    rw [Nat.mul_comm (5 ^ l.length) 5, ← Nat.mul_assoc]
    exact Nat.mul_le_mul_right _ (wstep_len (h p List.mem_cons_self))
def wlS (A : D) (f1 : Bool) (found : List Wl) (a b c e : Option (Bool × D)) (g : Option (Bool × D)) (h : Option Int) : En := [some (false, A), some (f1, .lst (found.map wD)), a, b, c, e, g, opI h, none]
theorem wlLoop {A : D} : ∀ (l done : List Per) (f1 : Bool) (found : List Wl) (a b c e : Option (Bool × D)) (g : Option (List D)) (h : Option Int), found ≠ [] → found.length * 5 ^ l.length ≤ 1000000 → done.length + l.length ≤ 1000 → ((done ++ l).map (·.nm)).Nodup → (∀ p ∈ l, Sml p) → (∀ ws ∈ found, WIn done ws) →
    ∃ f1' a' b' c' e' g' h', forN (pTup 4 (pCons (pName 2) (pCons (pName 3) (pCons (pName 4) (pCons (pName 5) pNil))))) wl1B (l.map perD) (wlS A f1 found a b c e (opL g) h) = W.ret (.nx, wlS A f1' (l.foldl wstep found) a' b' c' e' (opL g') h')
  | [], done, f1, found, a, b, c, e, g, h, _, _, _, _, _, _ => ⟨f1, a, b, c, e, g, h, rfl⟩
  | p :: l, done, f1, found, a, b, c, e, g, h, hne, hl, hd, nd, hs, hin => by
    rw [List.length_cons] at hd
    rw [List.length_cons, Nat.pow_succ, Nat.mul_comm (5 ^ l.length) 5, ← Nat.mul_assoc] at hl
    have hl5 : found.length * 5 ≤ 1000000 := Nat.le_trans (Nat.le_mul_of_pos_right _ (Nat.pow_pos (by decide))) hl
    have hp : p.nm ∉ done.map (·.nm) := fun z => by
      rw [List.map_append, List.map_cons] at nd
      exact (List.nodup_append.mp nd).2.2 _ z _ List.mem_cons_self rfl
    have sp := hs p List.mem_cons_self
    obtain ⟨h1, hb⟩ := wlBody_eq (A := A) (f1 := f1) hne hl5 sp (fun d ws hws => by
      have i := hin ws hws
      refine ⟨by have := i.len; omega, ?_⟩
      rw [List.map_append]
      refine List.nodup_append.mpr ⟨i.nd, (by simp), fun x hx y hy e => ?_⟩
      cases List.mem_singleton.mp hy
      obtain ⟨w, hw, rfl⟩ := List.mem_map.mp hx
      obtain ⟨q, hq, e2, _⟩ := i.ok w hw
      exact hp (List.mem_map.mpr ⟨q, hq, e2.trans e⟩)) g h
    obtain ⟨f1', a', b', c', e', g', h', ih⟩ := wlLoop (A := A) l (done ++ [p]) false (wstep found p) (some (false, .str p.nm)) (some (false, .int p.w)) (some (false, .int p.s)) (some (false, spD p.sp)) (some ((wstep found p).map wD)) h1 (fun z => hne (List.append_eq_nil_iff.mp z).1) (Nat.le_trans (Nat.mul_le_mul_right _ (wstep_len sp)) hl) (by rw [List.length_append]; simp; omega) (by rw [List.append_assoc]; exact nd) (fun z hz => hs z (List.mem_cons_of_mem _ hz)) (WIn.step hp hin)
    exact ⟨f1', a', b', c', e', g', h', (forN_cons (bs := [(2, .str p.nm), (3, .int p.w), (4, .int p.s), (5, spD p.sp)]) rfl hb).trans ih⟩
theorem worlds_eq {P : Pl} (hl : 5 ^ P.ps.length ≤ 1000000) (h1000 : P.ps.length ≤ 1000) (nd : (P.ps.map (·.nm)).Nodup) (hs : ∀ p ∈ P.ps, Sml p) : ∃ f1, sem__law_worlds [toldD P] = W.ret (f1, .lst ((worldsM P.ps).map wD)) := by
  obtain ⟨f1, a, b, c, e, g, h, hloop⟩ := wlLoop (A := toldD P) P.ps [] true [[]] none none none none none none (by simp) (by simpa using hl) (by simpa using h1000) nd hs (fun ws h => by
    cases List.mem_singleton.mp h
    exact ⟨Nat.le_refl _, List.nodup_nil, fun w hw => nomatch hw⟩)
  refine ⟨f1, ?_⟩
  rw [wl_sem]
  refine run_ret _ _ _ _ (wlS (toldD P) f1 (worldsM P.ps) a b c e (opL g) h) ?_
  have e0 : wl0 [some (false, toldD P), none, none, none, none, none, none, none, none] = W.ret (.nx, wlS (toldD P) true [[]] none none none none (opL none) none) := set_eq (r := (true, .lst [.dic []])) rfl rfl
  refine (seq_nx e0).trans ((seq_nx ((for_eq (ds := P.ps.map perD) rfl).trans hloop)).trans rfl)
theorem pow5 {n : Nat} (h : n ≤ 8) : 5 ^ n ≤ 1000000 := Nat.le_trans (Nat.pow_le_pow_right (by decide) h) (by decide)
theorem Drawn.sml {P : Pl} (h : Drawn P) : ∀ p ∈ P.ps, Sml p := fun p hp => by
  have d := h.per p hp
  refine ⟨?_, fun lo hi e => ?_⟩
  · rcases e : p.sp with _ | ⟨lo, hi⟩
    · simp [daysOf]
    · obtain ⟨h1, h2, h3, h4⟩ := d.sp lo hi e
      show ((List.range (hi + 1 - lo).toNat).map fun k : Nat => lo + (k : Int)).length ≤ 4
      rw [List.length_map, List.length_range]; omega
  · obtain ⟨h1, h2, h3, h4⟩ := d.sp lo hi e
    exact .of_le h1 (by omega) (by omega) (by omega)
theorem Drawn.worlds {P : Pl} (h : Drawn P) : ∃ f1, sem__law_worlds [toldD P] = W.ret (f1, .lst ((worldsM P.ps).map wD)) := worlds_eq (pow5 (by have := h.most; omega)) (by have := h.most; omega) h.nd h.sml
theorem Drawn.wok {P : Pl} (h : Drawn P) {ws : Wl} (hw : ws ∈ worldsM P.ps) : WOk P ws := by
  have i := worldsM_in h.nd ws hw
  refine ⟨small (by have := i.len; have := h.most; omega), fun w hw => ?_, i.nd⟩
  obtain ⟨p, hp, e, lo, hi, es, h1, h2⟩ := i.ok w hw
  exact ⟨p, hp, e, lo, hi, es, ((h.per p hp).sp lo hi es).1, h1, h2⟩
theorem Drawn.wlen {P : Pl} (h : Drawn P) : (worldsM P.ps).length ≤ 1000000 := by
  have := wfold_len P.ps [[]] h.sml
  rw [List.length_singleton, Nat.one_mul] at this
  exact Nat.le_trans this (pow5 (by have := h.most; omega))
end FbL
end

section
set_option Elab.async false
set_option linter.all false
set_option maxRecDepth 100000
set_option maxHeartbeats 1000000
namespace FbL
open PySem PySem.Spec PyProof.Rows L2 Fb
theorem leM_gt {x y : Met} (h : y.day < x.day) : leM x y = false := by
  show (!PySem.W.dataLt (.tuple [.int y.day, .str y.one, .str y.other]) (.tuple [.int x.day, .str x.one, .str x.other])) = false
  have : PySem.W.dataLt (.tuple [.int y.day, .str y.one, .str y.other]) (.tuple [.int x.day, .str x.one, .str x.other]) = true := by
    show PyProof.Rows.lexLt itemOrd (PySem.W.keyToksAll _) (PySem.W.keyToksAll _) = true
    rw [PySem.W.dataLt_cons rfl, if_neg (by show ¬ ((y.day == x.day) = true); simp; omega)]
    rw [PySem.W.dataLt_int]
    exact decide_eq_true h
  rw [this]; rfl
theorem sorted_days (ms : List Met) : (ms.mergeSort leM).Pairwise fun a b => a.day ≤ b.day := by
  have hs := PySem.W.sort_pairwise (PySem.W.sortLe_total (listOrd itemOrd) false fun x : Met => PySem.W.keyToks (encD (metD x))) ms
  have hs : (ms.mergeSort leM).Pairwise fun a b => leM a b = true := hs
  refine hs.imp fun {a b} h => ?_
  by_cases z : b.day < a.day
  · rw [leM_gt z] at h; cases h
  · omega
/-! ### days, none behind all -/
abbrev Dy := Str → Option Int
def leO (a b : Option Int) : Prop := ∀ y, b = some y → ∃ x, a = some x ∧ x ≤ y
theorem leO.refl (a : Option Int) : leO a a := fun y h => ⟨y, h, Int.le_refl _⟩
theorem leO.trans {a b c : Option Int} (h : leO a b) (k : leO b c) : leO a c := fun z hz => by
  obtain ⟨y, hy, h1⟩ := k z hz
  obtain ⟨x, hx, h2⟩ := h y hy
  exact ⟨x, hx, Int.le_trans h2 h1⟩
theorem leO.antisymm {a b : Option Int} (h : leO a b) (k : leO b a) : a = b := by
  rcases a with _ | a
  · rcases b with _ | b
    · rfl
    · obtain ⟨x, hx, _⟩ := h b rfl; cases hx
  · obtain ⟨y, hy, h1⟩ := k a rfl
    obtain ⟨x, hx, h2⟩ := h y hy
    cases hx
    rw [hy]
    congr 1; omega
def leF (f g : Dy) : Prop := ∀ n, leO (f n) (g n)
theorem leF.refl (f : Dy) : leF f f := fun n => .refl _
theorem leF.trans {f g h : Dy} (a : leF f g) (b : leF g h) : leF f h := fun n => (a n).trans (b n)
theorem leO_min {a t : Option Int} {d : Int} (h : leO a t) (k : leO a (some d)) : leO a (minM d t) := fun y hy => by
  rcases t with _ | t
  · exact k y hy
  · have : (if t < d then t else d) = y := Option.some.inj hy
    by_cases z : t < d
    · rw [if_pos z] at this
      exact h y (by rw [this])
    · rw [if_neg z] at this
      exact k y (by rw [this])
theorem min_le_day (d : Int) (t : Option Int) : leO (minM d t) (some d) := fun y hy => by
  cases hy
  rcases t with _ | t
  · exact ⟨d, rfl, Int.le_refl _⟩
  · refine ⟨_, rfl, ?_⟩
    split <;> omega
theorem min_le_t (d : Int) (t : Option Int) : leO (minM d t) t := fun y hy => by
  subst hy
  refine ⟨_, rfl, ?_⟩
  split <;> omega
theorem pass_le (g : Option Int) (w d : Int) (t : Option Int) : leO (passM g w d t) t := by
  rcases g with _ | x
  · exact .refl _
  · show leO (if d < x + w then t else minM d t) t
    split
    · exact .refl _
    · exact min_le_t d t
theorem pass_day {x w d : Int} (h : x + w ≤ d) (t : Option Int) : leO (passM (some x) w d t) (some d) := by
  show leO (if d < x + w then t else minM d t) (some d)
  rw [if_neg (by omega)]
  exact min_le_day d t
theorem pass_val {g : Option Int} {w d : Int} {t : Option Int} {v : Int} (h : passM g w d t = some v) : t = some v ∨ v = d := by
  rcases g with _ | x
  · exact .inl h
  · have h : (if d < x + w then t else minM d t) = some v := h
    split at h
    · exact .inl h
    · rcases t with _ | t
      · cases h; exact .inr rfl
      · have : (if t < d then t else d) = v := Option.some.inj h
        split at this
        · exact .inl (by rw [this])
        · exact .inr this.symm
variable {wt : Str → Int}
theorem step_one (f : Dy) (m : Met) : stepM wt f m m.one = passM (f m.other) (wt m.other) m.day (f m.one) := if_pos rfl
theorem step_other (f : Dy) (m : Met) (h : m.other ≠ m.one) : stepM wt f m m.other = passM (f m.one) (wt m.one) m.day (f m.other) := (if_neg h).trans (if_pos rfl)
theorem step_else (f : Dy) (m : Met) {n : Str} (h1 : n ≠ m.one) (h2 : n ≠ m.other) : stepM wt f m n = f n := (if_neg h1).trans (if_neg h2)
theorem step_le (f : Dy) (m : Met) : leF (stepM wt f m) f := fun n => by
  by_cases h1 : n = m.one
  · subst h1; rw [step_one]; exact pass_le _ _ _ _
  · by_cases h2 : n = m.other
    · subst h2; rw [step_other f m h1]; exact pass_le _ _ _ _
    · rw [step_else f m h1 h2]; exact .refl _
theorem step_val {f : Dy} {m : Met} {n : Str} {v : Int} (h : stepM wt f m n = some v) : f n = some v ∨ v = m.day := by
  by_cases h1 : n = m.one
  · subst h1; rw [step_one] at h; exact pass_val h
  · by_cases h2 : n = m.other
    · subst h2; rw [step_other f m h1] at h; exact pass_val h
    · rw [step_else f m h1 h2] at h; exact .inl h
theorem fold_le : ∀ (l : List Met) (f : Dy), leF (l.foldl (stepM wt) f) f
  | [], f => .refl f
  | m :: l, f => (fold_le l (stepM wt f m)).trans (step_le f m)
theorem fold_val : ∀ (l : List Met) (f : Dy) {n : Str} {v : Int}, l.foldl (stepM wt) f n = some v → f n = some v ∨ ∃ m ∈ l, v = m.day
  | [], f, n, v, h => .inl h
  | m :: l, f, n, v, h => by
    rcases fold_val l (stepM wt f m) h with h | ⟨m', hm, e⟩
    · rcases step_val h with h | h
      · exact .inl h
      · exact .inr ⟨m, List.mem_cons_self, h⟩
    · exact .inr ⟨m', List.mem_cons_of_mem _ hm, e⟩
/-- who gives to whom -/
def pairs (m : Met) : List (Str × Str) := [(m.one, m.other), (m.other, m.one)]
/-- nothing falls any more -/
def Closed (wt : Str → Int) (ms : List Met) (S : Dy) : Prop := ∀ m ∈ ms, ∀ q ∈ pairs m, ∀ v, S q.1 = some v → v + wt q.1 ≤ m.day → leO (S q.2) (some m.day)
theorem fold_closed : ∀ (l : List Met) (f : Dy), l.Pairwise (fun a b => a.day ≤ b.day) → (∀ m ∈ l, m.one ≠ m.other ∧ 1 ≤ wt m.one ∧ 1 ≤ wt m.other) → Closed wt l (l.foldl (stepM wt) f)
  | [], f, _, _ => fun m hm => nomatch hm
  | m :: l, f, hp, hw => by
    have hpc := List.pairwise_cons.mp hp
    have ih := fold_closed l (stepM wt f m) hpc.2 fun z hz => hw z (List.mem_cons_of_mem _ hz)
    intro m' hm' q hq v hv hd
    rcases List.mem_cons.mp hm' with rfl | hm'
    · obtain ⟨hne, w1, w2⟩ := hw m' List.mem_cons_self
      have hw' : 1 ≤ wt q.1 := by
        simp only [pairs, List.mem_cons, List.not_mem_nil, or_false] at hq
        rcases hq with rfl | rfl
        · exact w1
        · exact w2
      have h1 : stepM wt f m' q.1 = some v := by
        rcases fold_val l (stepM wt f m') hv with h | ⟨m2, hm2, e⟩
        · exact h
        · have := hpc.1 m2 hm2
          omega
      have h2 : f q.1 = some v := by
        rcases step_val h1 with h | h
        · exact h
        · omega
      refine (fold_le l (stepM wt f m') q.2).trans ?_
      simp only [pairs, List.mem_cons, List.not_mem_nil, or_false] at hq
      rcases hq with rfl | rfl
      · show leO (stepM wt f m' m'.other) _
        rw [step_other f m' hne.symm, show f m'.one = some v from h2]
        exact pass_day hd _
      · show leO (stepM wt f m' m'.one) _
        rw [step_one, show f m'.other = some v from h2]
        exact pass_day hd _
    · exact ih m' hm' q hq v hv hd
/-! ### going over the meetings -/
def ableB (w on : Int) : Option Int → Bool
  | none => false
  | some v => decide (v + w ≤ on)
def lateB (on : Int) : Option Int → Bool
  | none => true
  | some v => decide (on < v)
def giveM (wt : Str → Int) (on : Int) (f : Dy) (q : Str × Str) : Dy := if (ableB (wt q.1) on (f q.1) && lateB on (f q.2)) = true then upd1 f q.2 (some on) else f
theorem give_le (on : Int) (f : Dy) (q : Str × Str) : leF (giveM wt on f q) f := fun n => by
  unfold giveM
  split
  · rename_i h
    unfold upd1
    split
    · rename_i e
      subst e
      intro y hy
      rw [hy] at h
      have := of_decide_eq_true (Bool.and_eq_true_iff.mp h).2
      exact ⟨on, rfl, by omega⟩
    · exact .refl _
  · exact .refl _
theorem give_able {on : Int} {f : Dy} {q : Str × Str} {v : Int} (h : f q.1 = some v) (hv : v + wt q.1 ≤ on) : leO (giveM wt on f q q.2) (some on) := by
  unfold giveM
  rw [h]
  rw [show ableB (wt q.1) on (some v) = true from decide_eq_true hv, Bool.true_and]
  rcases e : f q.2 with _ | u
  · show leO (upd1 f q.2 (some on) q.2) _
    unfold upd1
    rw [if_pos rfl]
    exact .refl _
  · show leO ((if decide (on < u) = true then upd1 f q.2 (some on) else f) q.2) _
    split
    · unfold upd1
      rw [if_pos rfl]
      exact .refl _
    · rename_i z
      have : ¬ on < u := fun y => z (decide_eq_true y)
      rw [e]
      intro y hy
      cases hy
      exact ⟨u, rfl, by omega⟩
theorem give_above {on : Int} {f S : Dy} {q : Str × Str} (h : leF S f) (hc : ∀ v, S q.1 = some v → v + wt q.1 ≤ on → leO (S q.2) (some on)) : leF S (giveM wt on f q) := fun n => by
  unfold giveM
  split
  · rename_i z
    unfold upd1
    split
    · rename_i e
      subst e
      rcases e : f q.1 with _ | v
      · rw [e] at z; cases z
      · rw [e] at z
        have z := of_decide_eq_true (Bool.and_eq_true_iff.mp z).1
        obtain ⟨x, hx, hxv⟩ := h q.1 v e
        exact hc x hx (by omega)
    · exact h n
  · exact h n
def metM (wt : Str → Int) (f : Dy) (m : Met) : Dy := (pairs m).foldl (giveM wt m.day) f
def roundM (wt : Str → Int) (ms : List Met) (f : Dy) : Dy := ms.foldl (metM wt) f
def roundsM (wt : Str → Int) (ms : List Met) : Nat → Dy → Dy
  | 0, f => f
  | n + 1, f => roundsM wt ms n (roundM wt ms f)
theorem met_le (f : Dy) (m : Met) : leF (metM wt f m) f := (give_le _ _ _).trans (give_le _ _ _)
theorem round_le : ∀ (ms : List Met) (f : Dy), leF (roundM wt ms f) f
  | [], f => .refl f
  | m :: ms, f => (round_le ms (metM wt f m)).trans (met_le f m)
theorem leO_pass {a : Option Int} {g t : Option Int} {w d : Int} (h : leO a t) (k : ∀ x, g = some x → x + w ≤ d → leO a (some d)) : leO a (passM g w d t) := by
  rcases g with _ | x
  · exact h
  · show leO a (if d < x + w then t else minM d t)
    split
    · exact h
    · exact leO_min h (k x rfl (by omega))
theorem met_step {f g : Dy} {m : Met} (h : leF f g) : leF (metM wt f m) (stepM wt g m) := fun n => by
  have k1 : leF (giveM wt m.day f (m.one, m.other)) g := (give_le _ _ _).trans h
  by_cases h1 : n = m.one
  · subst h1
    rw [step_one]
    refine leO_pass (((met_le f m).trans h) _) fun x hx hd => ?_
    obtain ⟨y, hy, hyx⟩ := k1 m.other x hx
    exact give_able (q := (m.other, m.one)) hy (show y + wt m.other ≤ m.day by omega)
  · by_cases h2 : n = m.other
    · subst h2
      rw [step_other g m h1]
      refine leO_pass (((met_le f m).trans h) _) fun x hx hd => ?_
      obtain ⟨y, hy, hyx⟩ := h m.one x hx
      exact (give_le _ _ _ _).trans (give_able (q := (m.one, m.other)) hy (show y + wt m.one ≤ m.day by omega))
    · rw [step_else g m h1 h2]
      exact ((met_le f m).trans h) n
theorem round_step {ms : List Met} {f g : Dy} {m : Met} (hm : m ∈ ms) (h : leF f g) : leF (roundM wt ms f) (stepM wt g m) := by
  induction ms generalizing f with
  | nil => cases hm
  | cons a ms ih =>
    rcases List.mem_cons.mp hm with rfl | hm
    · exact (round_le ms (metM wt f m)).trans (met_step h)
    · exact ih hm ((met_le f a).trans h)
theorem rounds_le (ms : List Met) : ∀ (n : Nat) (f : Dy), leF (roundsM wt ms n f) f
  | 0, f => .refl f
  | n + 1, f => (rounds_le ms n _).trans (round_le ms f)
theorem rounds_fold {ms : List Met} : ∀ (l : List Met) (k : Nat) (f g : Dy), (∀ m ∈ l, m ∈ ms) → leF f g → l.length ≤ k → leF (roundsM wt ms k f) (l.foldl (stepM wt) g)
  | [], k, f, g, _, h, _ => (rounds_le ms k f).trans h
  | m :: l, 0, f, g, _, _, hk => by simp at hk
  | m :: l, k + 1, f, g, hm, h, hk => rounds_fold l k (roundM wt ms f) (stepM wt g m) (fun z hz => hm z (List.mem_cons_of_mem _ hz)) (round_step (hm m List.mem_cons_self) h) (by simpa using hk)
theorem met_above {ms : List Met} {f S : Dy} {m : Met} (hc : Closed wt ms S) (hm : m ∈ ms) (h : leF S f) : leF S (metM wt f m) :=
  give_above (give_above h fun v hv hd => hc m hm (m.one, m.other) (by simp [pairs]) v hv hd) fun v hv hd => hc m hm (m.other, m.one) (by simp [pairs]) v hv hd
theorem round_above {ms : List Met} {S : Dy} (hc : Closed wt ms S) : ∀ (l : List Met) (f : Dy), (∀ m ∈ l, m ∈ ms) → leF S f → leF S (roundM wt l f)
  | [], f, _, h => h
  | m :: l, f, hl, h => round_above hc l (metM wt f m) (fun z hz => hl z (List.mem_cons_of_mem _ hz)) (met_above hc (hl m List.mem_cons_self) h)
theorem rounds_above {ms : List Met} {S : Dy} (hc : Closed wt ms S) : ∀ (k : Nat) (f : Dy), leF S f → leF S (roundsM wt ms k f)
  | 0, f, h => h
  | k + 1, f, h => rounds_above hc k (roundM wt ms f) (round_above hc ms f (fun _ z => z) h)
theorem rounds_eq {ms : List Met} (hw : ∀ m ∈ ms, m.one ≠ m.other ∧ 1 ≤ wt m.one ∧ 1 ≤ wt m.other) (k : Nat) (hk : ms.length ≤ k) (f : Dy) : roundsM wt ms k f = (ms.mergeSort leM).foldl (stepM wt) f := by
  have hp := List.mergeSort_perm ms leM
  have hc : Closed wt ms ((ms.mergeSort leM).foldl (stepM wt) f) := fun m hm => fold_closed (ms.mergeSort leM) f (sorted_days ms) (fun z hz => hw z (hp.mem_iff.mp hz)) m (hp.mem_iff.mpr hm)
  funext n
  refine leO.antisymm ?_ ?_
  · exact rounds_fold (ms := ms) (ms.mergeSort leM) k f f (fun m hm => hp.mem_iff.mp hm) (.refl f) (by rw [hp.length_eq]; exact hk) n
  · exact rounds_above hc k f (fold_le _ f) n
end FbL
end

section
set_option Elab.async false
set_option linter.all false
set_option maxRecDepth 100000
set_option maxHeartbeats 1000000
namespace FbL
open PySem PySem.Spec PyProof.Rows L2 Fb TL
def bo0 : En → WS := (mSet [0, 1] 2 (mBlt (gDictP) (mCons (mDe (mLc (mWalk (mOp gIx (mVar 0) (mC (.int 0)))) [11] (pName 11) mYes (mTup (mCons (mOp gIx (mVar 11) (mC (.int 0))) (mCons (mGet1 (mVar 1) (mOp gIx (mVar 11) (mC (.int 0)))) mNil))))) mNil)))
def bo1 : En → WS := (mSet [0] 3 (mBlt (gDictP) (mCons (mDe (mLc (mWalk (mOp gIx (mVar 0) (mC (.int 0)))) [11] (pName 11) mYes (mTup (mCons (mOp gIx (mVar 11) (mC (.int 0))) (mCons (mOp gIx (mVar 11) (mC (.int 1))) mNil))))) mNil)))
def bo2B0B0B0 : En → WS := (mSet [5, 2, 8, 3] 10 (mDr (mAndV (mOp (gIs true) (mOp gIx (mVar 2) (mVar 8)) (mC .non)) (mOp gLe (mDe (mOpR gAdd (mOp gIx (mVar 2) (mVar 8)) (mOp gIx (mVar 3) (mVar 8)))) (mVar 5)))))
def bo2B0B0B1 : En → WS := (mIf (mAnd (mTest (mVar 10)) (mOr (mTest (mOp (gIs false) (mOp gIx (mVar 2) (mVar 9)) (mC .non))) (mTest (mOp gGt (mOp gIx (mVar 2) (mVar 9)) (mVar 5))))) (mDput [5] 2 (mVar 9) (mVar 5)) mSkip)
def bo2B0B0B : En → WS := mSeq bo2B0B0B0 bo2B0B0B1
def bo2B0B0 : En → WS := (mFor [6, 7] (mWalk (mTup (mCons (mTup (mCons (mVar 6) (mCons (mVar 7) mNil))) (mCons (mTup (mCons (mVar 7) (mCons (mVar 6) mNil))) mNil)))) (pTup 2 (pCons (pName 8) (pCons (pName 9) pNil))) bo2B0B0B)
def bo2B0B : En → WS := bo2B0B0
def bo2B0 : En → WS := (mFor [0] (mWalk (mOp gIx (mVar 0) (mC (.int 1)))) (pTup 3 (pCons (pName 5) (pCons (pName 6) (pCons (pName 7) pNil)))) bo2B0B)
def bo2B : En → WS := bo2B0
def bo2 : En → WS := (mFor [0] (mRng1 (mCons (mDe (mOpR gAdd (mDe (mBlt (g1 lenD) (mCons (mOp gIx (mVar 0) (mC (.int 1))) mNil))) (mC (.int 1)))) mNil)) (pName 4) bo2B)
def bo3 : En → WS := (mRetV 2)
def bo : En → WS := mSeq bo0 (mSeq bo1 (mSeq bo2 bo3))
theorem pairs_of {α : Type} (k : α → Str) (v : α → D) : ∀ l : List α, pairsOf (l.map fun a => .tup [.str (k a), v a]) = some (l.map fun a => (Sum.inr (k a), v a))
  | [] => rfl
  | a :: l => by
    show (match asPair (.tup [.str (k a), v a]), pairsOf (l.map fun a => .tup [.str (k a), v a]) with
    | some x, some ys => some (x :: ys)
    | _, _ => none) = _
    rw [pairs_of k v l]; rfl
/-- dict([(k, v) ..]) -/
theorem dictP_of {α : Type} (k : α → Str) (v : α → D) {l : List α} (h : (l.map k).Nodup) : gDictP [.lst (l.map fun a => .tup [.str (k a), v a])] = W.ret (true, .dic (l.map fun a => (Sum.inr (k a), v a))) := by
  show (W.got (pairsOf _) fun kvs => W.ret (true, D.dic (mergeD [] kvs))) = _
  rw [pairs_of]
  show W.ret (true, D.dic (mergeD [] _)) = _
  rw [merge_app _ [] (by
    rw [List.nil_append, List.map_map]
    have := inrs_nodup h
    rw [List.map_map] at this
    exact this), List.nil_append]
def opD (x : Option D) : Option (Bool × D) := x.map fun d => (false, d)
def boE (A F : D) (ns : List Str) (f : Dy) (wk : List (Key × D)) (a b c e g h i : Option D) : En := [some (false, A), some (false, F), some (true, .dic (dayD ns f)), some (true, .dic wk), opD a, opD b, opD c, opD e, opD g, opD h, opD i, none]
theorem frzB (fz : List Nat) (h2 : fz.contains 2 = false) (h3 : fz.contains 3 = false) {A F : D} {ns : List Str} {f : Dy} {wk : List (Key × D)} {a b c e g h i : Option D} : frz fz (boE A F ns f wk a b c e g h i) = boE A F ns f wk a b c e g h i := by
  have z : ∀ x : Option D, ∀ k r, frzFrom fz k (opD x :: r) = opD x :: frzFrom fz (k + 1) r := fun x k r => by cases x <;> rfl
  show frzFrom fz 0 [some (false, A), some (false, F), some (true, .dic (dayD ns f)), some (true, .dic wk), opD a, opD b, opD c, opD e, opD g, opD h, opD i, none] = _
  show some (false && _, A) :: some (false && _, F) :: some (true && !(fz.contains 2), D.dic (dayD ns f)) :: some (true && !(fz.contains 3), D.dic wk) :: frzFrom fz 4 [opD a, opD b, opD c, opD e, opD g, opD h, opD i, none] = _
  rw [h2, h3, z, z, z, z, z, z, z]; rfl
variable {A F : D} {ns : List Str} {wk : List (Key × D)} {wt : Str → Int}
theorem boBody_eq (hl : ns.length < sizeLine) (hw : ∀ n ∈ ns, lookK wk (.inr n) = some (.int (wt n))) (f : Dy) {on : Int} {x y gi ta : Str} (h1 : gi ∈ ns) (h2 : ta ∈ ns) (a i : Option D) :
    ∃ i', bo2B0B0B (boE A F ns f wk a (some (.int on)) (some (.str x)) (some (.str y)) (some (.str gi)) (some (.str ta)) i) = W.ret (.nx, boE A F ns (giveM wt on f (gi, ta)) wk a (some (.int on)) (some (.str x)) (some (.str y)) (some (.str gi)) (some (.str ta)) i') := by
  refine ⟨some (.bl (ableB (wt gi) on (f gi))), ?_⟩
  have e0 : bo2B0B0B0 (boE A F ns f wk a (some (.int on)) (some (.str x)) (some (.str y)) (some (.str gi)) (some (.str ta)) i) = W.ret (.nx, boE A F ns f wk a (some (.int on)) (some (.str x)) (some (.str y)) (some (.str gi)) (some (.str ta)) (some (.bl (ableB (wt gi) on (f gi))))) := by
    refine set_eq (r := (false, .bl (ableB (wt gi) on (f gi)))) (dr_eq ?_) (asg_imm rfl)
    have rs : ∃ o4 o10, see [5, 2, 8, 3] (boE A F ns f wk a (some (.int on)) (some (.str x)) (some (.str y)) (some (.str gi)) (some (.str ta)) i) = [some A, some F, some (.dic (dayD ns f)), some (.dic wk), o4, some (.int on), some (.str x), some (.str y), some (.str gi), some (.str ta), o10, none] := by
      rcases a with _ | _ <;> rcases i with _ | _ <;> exact ⟨_, _, rfl⟩
    obtain ⟨o4, o10, rs⟩ := rs
    rw [rs]
    have g0 : mOp gIx (mVar 2) (mVar 8) [some A, some F, some (.dic (dayD ns f)), some (.dic wk), o4, some (.int on), some (.str x), some (.str y), some (.str gi), some (.str ta), o10, none] = W.ret (optD (f gi)) := op_eq (a := .dic (dayD ns f)) (b := .str gi) rfl rfl (ix_day h1)
    have g1 : mOp gIx (mVar 3) (mVar 8) [some A, some F, some (.dic (dayD ns f)), some (.dic wk), o4, some (.int on), some (.str x), some (.str y), some (.str gi), some (.str ta), o10, none] = W.ret (.int (wt gi)) := op_eq (a := .dic wk) (b := .str gi) rfl rfl (ix_look (hw gi h1))
    rcases e : f gi with _ | v
    · rw [e] at g0
      exact andV_eq false false (op_eq g0 rfl rfl) fun z => nomatch z
    · rw [e] at g0
      exact andV_eq true (decide (v + wt gi ≤ on)) (op_eq g0 rfl rfl) fun _ => op_eq (b := .int on) (de_eq (opR_eq g0 g1 rfl)) rfl rfl
  refine (seq_nx e0).trans ?_
  have rs : ∃ o4, ro (boE A F ns f wk a (some (.int on)) (some (.str x)) (some (.str y)) (some (.str gi)) (some (.str ta)) (some (.bl (ableB (wt gi) on (f gi))))) = [some A, some F, some (.dic (dayD ns f)), some (.dic wk), o4, some (.int on), some (.str x), some (.str y), some (.str gi), some (.str ta), some (.bl (ableB (wt gi) on (f gi))), none] := by
    rcases a with _ | _ <;> exact ⟨_, rfl⟩
  have t : (mAnd (mTest (mVar 10)) (mOr (mTest (mOp (gIs false) (mOp gIx (mVar 2) (mVar 9)) (mC .non))) (mTest (mOp gGt (mOp gIx (mVar 2) (mVar 9)) (mVar 5))))) (ro (boE A F ns f wk a (some (.int on)) (some (.str x)) (some (.str y)) (some (.str gi)) (some (.str ta)) (some (.bl (ableB (wt gi) on (f gi)))))) = W.ret (ableB (wt gi) on (f gi) && lateB on (f ta)) := by
    obtain ⟨o4, rs⟩ := rs
    rw [rs]
    have g0 : mOp gIx (mVar 2) (mVar 9) [some A, some F, some (.dic (dayD ns f)), some (.dic wk), o4, some (.int on), some (.str x), some (.str y), some (.str gi), some (.str ta), some (.bl (ableB (wt gi) on (f gi))), none] = W.ret (optD (f ta)) := op_eq (a := .dic (dayD ns f)) (b := .str ta) rfl rfl (ix_day h2)
    refine and_eq _ _ (test_eq _ rfl) fun _ => ?_
    rcases e : f ta with _ | v
    · rw [e] at g0
      exact or_eq true true (test_eq _ (op_eq g0 rfl rfl)) fun z => nomatch z
    · rw [e] at g0
      exact or_eq false (decide (on < v)) (test_eq _ (op_eq g0 rfl rfl)) fun _ => test_eq _ (op_eq (b := .int on) g0 rfl rfl)
  refine (if_eq _ t).trans ?_
  unfold giveM
  show (if (ableB (wt gi) on (f gi) && lateB on (f ta)) = true then _ else _) = W.ret (Fl.nx, boE A F ns (if (ableB (wt gi) on (f gi) && lateB on (f ta)) = true then upd1 f ta (some on) else f) wk a (some (.int on)) (some (.str x)) (some (.str y)) (some (.str gi)) (some (.str ta)) (some (.bl (ableB (wt gi) on (f gi)))))
  split
  · have sv : (mVar 5) (see [5] (boE A F ns f wk a (some (.int on)) (some (.str x)) (some (.str y)) (some (.str gi)) (some (.str ta)) (some (.bl (ableB (wt gi) on (f gi)))))) = W.ret (.int on) := by rcases a with _ | _ <;> rfl
    have rv : (mVar 9) (ro (boE A F ns f wk a (some (.int on)) (some (.str x)) (some (.str y)) (some (.str gi)) (some (.str ta)) (some (.bl (ableB (wt gi) on (f gi)))))) = W.ret (.str ta) := by rcases a with _ | _ <;> rfl
    refine (dput_eq (kvs := dayD ns f) (ky := .inr ta) rfl sv rv rfl rfl (by unfold dayD; rw [List.length_map]; exact hl)).trans ?_
    have := put_day (f := f) (v := some on) h2
    rw [show (D.int on) = optD (some on) from rfl, this]; rfl
  · rfl
theorem boPair_eq (hl : ns.length < sizeLine) (hw : ∀ n ∈ ns, lookK wk (.inr n) = some (.int (wt n))) (f : Dy) (m : Met) (h1 : m.one ∈ ns) (h2 : m.other ∈ ns) (a g h i : Option D) :
    ∃ g' h' i', bo2B0B (boE A F ns f wk a (some (.int m.day)) (some (.str m.one)) (some (.str m.other)) g h i) = W.ret (.nx, boE A F ns (metM wt f m) wk a (some (.int m.day)) (some (.str m.one)) (some (.str m.other)) g' h' i') := by
  obtain ⟨i1, e1⟩ := boBody_eq (A := A) (F := F) (x := m.one) (y := m.other) hl hw f (on := m.day) h1 h2 a i
  obtain ⟨i2, e2⟩ := boBody_eq (A := A) (F := F) (x := m.one) (y := m.other) hl hw (giveM wt m.day f (m.one, m.other)) (on := m.day) h2 h1 a i1
  refine ⟨some (.str m.other), some (.str m.one), i2, (for_eq (ds := [.tup [.str m.one, .str m.other], .tup [.str m.other, .str m.one]]) ?_).trans ?_⟩
  · have rs : ∀ z : Ro, z = see [6, 7] (boE A F ns f wk a (some (.int m.day)) (some (.str m.one)) (some (.str m.other)) g h i) → mVar 6 z = W.ret (.str m.one) ∧ mVar 7 z = W.ret (.str m.other) := fun z hz => by
      subst hz
      rcases a with _ | _ <;> exact ⟨rfl, rfl⟩
    obtain ⟨v6, v7⟩ := rs _ rfl
    have two := small (show 2 ≤ 1000 by decide)
    exact walk_eq (d := .tup [.tup [.str m.one, .str m.other], .tup [.str m.other, .str m.one]]) (tup_eq (cons_eq (tup_eq (cons_eq v6 (cons_eq v7 rfl)) two) (cons_eq (tup_eq (cons_eq v7 (cons_eq v6 rfl)) two) rfl)) two) rfl
  · rw [frzB [6, 7] rfl rfl]
    refine (forN_cons (bs := [(8, .str m.one), (9, .str m.other)]) rfl e1).trans ((forN_cons (bs := [(8, .str m.other), (9, .str m.one)]) rfl e2).trans rfl)
theorem boMets_eq (hl : ns.length < sizeLine) (hw : ∀ n ∈ ns, lookK wk (.inr n) = some (.int (wt n))) : ∀ (ms : List Met) (f : Dy) (a b c e g h i : Option D), (∀ m ∈ ms, m.one ∈ ns ∧ m.other ∈ ns) →
    ∃ b' c' e' g' h' i', forN (pTup 3 (pCons (pName 5) (pCons (pName 6) (pCons (pName 7) pNil)))) bo2B0B (ms.map metD) (boE A F ns f wk a b c e g h i) = W.ret (.nx, boE A F ns (roundM wt ms f) wk a b' c' e' g' h' i')
  | [], f, a, b, c, e, g, h, i, _ => ⟨b, c, e, g, h, i, rfl⟩
  | m :: ms, f, a, b, c, e, g, h, i, hm => by
    obtain ⟨h1, h2⟩ := hm m List.mem_cons_self
    obtain ⟨g1, k1, i1, e1⟩ := boPair_eq (A := A) (F := F) hl hw f m h1 h2 a g h i
    obtain ⟨b', c', e', g', h', i', ih⟩ := boMets_eq hl hw ms (metM wt f m) a (some (.int m.day)) (some (.str m.one)) (some (.str m.other)) g1 k1 i1 fun z hz => hm z (List.mem_cons_of_mem _ hz)
    exact ⟨b', c', e', g', h', i', (forN_cons (bs := [(5, .int m.day), (6, .str m.one), (7, .str m.other)]) rfl e1).trans ih⟩
theorem boRounds_eq {P : Pl} (hl : ns.length < sizeLine) (hw : ∀ n ∈ ns, lookK wk (.inr n) = some (.int (wt n))) (hm : ∀ m ∈ P.ms, m.one ∈ ns ∧ m.other ∈ ns) : ∀ (is : List D) (f : Dy) (a b c e g h i : Option D),
    ∃ a' b' c' e' g' h' i', forN (pName 4) bo2B is (boE (toldD P) F ns f wk a b c e g h i) = W.ret (.nx, boE (toldD P) F ns (roundsM wt P.ms is.length f) wk a' b' c' e' g' h' i')
  | [], f, a, b, c, e, g, h, i => ⟨a, b, c, e, g, h, i, rfl⟩
  | d :: is, f, a, b, c, e, g, h, i => by
    obtain ⟨b1, c1, e1, g1, h1, i1, q⟩ := boMets_eq (A := toldD P) (F := F) hl hw P.ms f (some d) b c e g h i hm
    obtain ⟨a', b', c', e', g', h', i', ih⟩ := boRounds_eq hl hw hm is (roundM wt P.ms f) (some d) b1 c1 e1 g1 h1 i1
    refine ⟨a', b', c', e', g', h', i', (forN_cons (bs := [(4, d)]) (ρ' := boE (toldD P) F ns (roundM wt P.ms f) wk (some d) b1 c1 e1 g1 h1 i1) rfl ?_).trans ih⟩
    refine (for_eq (ds := P.ms.map metD) ?_).trans ?_
    · rfl
    · show forN _ bo2B0B _ (frz [0] (boE (toldD P) F ns f wk (some d) b c e g h i)) = _
      rw [frzB [0] rfl rfl]
      exact q
end FbL
end

section
set_option Elab.async false
set_option linter.all false
set_option maxRecDepth 100000
set_option maxHeartbeats 1000000
namespace FbL
open PySem PySem.Spec PyProof.Rows L2 Fb TL
/-! ### slots that are not known -/
def see1 (c : Bool) : Option (Bool × D) → Option D
  | none => none
  | some (b, d) => if (b && !c) = true then none else some d
def frz1 (c : Bool) : Option (Bool × D) → Option (Bool × D)
  | none => none
  | some (b, d) => some (b && !c, d)
def ro1 : Option (Bool × D) → Option D
  | none => none
  | some (_, d) => some d
theorem seeFrom_cons (fz : List Nat) (k : Nat) (x : Option (Bool × D)) (r : En) : seeFrom fz k (x :: r) = see1 (fz.contains k) x :: seeFrom fz (k + 1) r := by
  rcases x with _ | ⟨b, d⟩ <;> rfl
theorem frzFrom_cons (fz : List Nat) (k : Nat) (x : Option (Bool × D)) (r : En) : frzFrom fz k (x :: r) = frz1 (fz.contains k) x :: frzFrom fz (k + 1) r := by
  rcases x with _ | ⟨b, d⟩ <;> rfl
theorem roFrom_cons (x : Option (Bool × D)) (r : En) : roFrom (x :: r) = ro1 x :: roFrom r := by
  rcases x with _ | ⟨b, d⟩ <;> rfl
theorem seeFrom_get (fz : List Nat) : ∀ (ρ : En) (k i : Nat), (seeFrom fz k ρ)[i]? = (ρ[i]?).map (see1 (fz.contains (k + i)))
  | [], k, i => by simp [seeFrom]
  | x :: r, k, 0 => by rw [seeFrom_cons]; simp
  | x :: r, k, i + 1 => by
    rw [seeFrom_cons, List.getElem?_cons_succ, List.getElem?_cons_succ, seeFrom_get fz r (k + 1) i, show k + 1 + i = k + (i + 1) by omega]
theorem roFrom_get : ∀ (ρ : En) (i : Nat), (roFrom ρ)[i]? = (ρ[i]?).map ro1
  | [], i => by simp [roFrom]
  | x :: r, 0 => by rw [roFrom_cons]; simp
  | x :: r, i + 1 => by rw [roFrom_cons, List.getElem?_cons_succ, List.getElem?_cons_succ, roFrom_get r i]
theorem see_var {fz : List Nat} {ρ : En} {i : Nat} {b : Bool} {d : D} (h : ρ[i]? = some (some (b, d))) (hc : (b && !(fz.contains i)) = false) : mVar i (see fz ρ) = W.ret d := by
  unfold mVar see
  rw [seeFrom_get, h, Nat.zero_add]
  show gotD (some (if (b && !(fz.contains i)) = true then none else some d)) = _
  rw [hc]; rfl
theorem ro_var {ρ : En} {i : Nat} {b : Bool} {d : D} (h : ρ[i]? = some (some (b, d))) : mVar i (ro ρ) = W.ret d := by
  unfold mVar ro
  rw [roFrom_get, h]; rfl
theorem wipe_var {ρ : Ro} {i : Nat} : ∀ {vs : List Nat}, vs.contains i = false → mVar i (wipeR ρ vs) = mVar i ρ
  | [], _ => rfl
  | v :: vs, h => by
    rw [List.contains_cons] at h
    obtain ⟨h1, h2⟩ := Bool.or_eq_false_iff.mp h
    refine Eq.trans ?_ (wipe_var (ρ := ρ) (vs := vs) h2)
    show gotD ((wipeR ρ vs).set v none)[i]? = gotD (wipeR ρ vs)[i]?
    rw [List.getElem?_set_ne (fun e => by rw [e, beq_self_eq_true] at h1; cases h1)]
/-- a loop by what stays true -/
theorem forI {p : D → Option (List (Nat × D))} {b : En → WS} (I : En → Prop) (R : D → Prop) (hb : ∀ d ρ, R d → I ρ → ∃ bs, p d = some bs ∧ ∀ (Q : Fl × En → Prop) (E : Ex × En → Prop), (∀ ρ', I ρ' → Q (.nx, ρ')) → b (setE ρ bs) Q E) {Q : Fl × En → Prop} {E : Ex × En → Prop} (q : ∀ ρ', I ρ' → Q (.nx, ρ')) :
    ∀ (ds : List D) (ρ : En), (∀ d ∈ ds, R d) → I ρ → forN p b ds ρ Q E
  | [], ρ, _, h => q ρ h
  | d :: ds, ρ, hr, h => by
    obtain ⟨bs, h1, h2⟩ := hb d ρ (hr d List.mem_cons_self) h
    exact forrun h1 (h2 _ _ fun ρ' i => forI I R hb q ds ρ' (fun z hz => hr z (List.mem_cons_of_mem _ hz)) i)
/-- how many rounds -/
theorem count_eq (c : Nat) (h1 : 1 < c) (hc : c ≤ 1000) (ns : List Int) (hl : ns.length ≤ 63) (ρ : Ro) (h0 : mVar 0 ρ = W.ret (.scr ns)) : ∃ m : Nat, m ≤ 1000 ∧ (mRng1 (mCons (mDe (mBlt (gMM true) (mCons (mC (.int 1)) (mCons (mDe (mBlt (gMM false) (mCons (mC (.int c)) (mCons (mDe (mBlt (g1 lenD) (mCons (mVar 0) mNil))) mNil)))) mNil)))) mNil)) ρ = W.ret (rngD 0 m) := by
  have hlen : (mDe (mBlt (g1 lenD) (mCons (mVar 0) mNil))) ρ = W.ret (.int ns.length) := len_eq h0 rfl
  have e1 : (mDe (mBlt (gMM false) (mCons (mC (.int c)) (mCons (mDe (mBlt (g1 lenD) (mCons (mVar 0) mNil))) mNil)))) ρ = W.ret (.int (if (ns.length : Int) < c then ns.length else c)) := de_eq (b := false) (blt_eq (ds := [.int c, .int ns.length]) (cons_eq rfl (cons_eq hlen rfl)) rfl)
  have e2 : (mDe (mBlt (gMM true) (mCons (mC (.int 1)) (mCons (mDe (mBlt (gMM false) (mCons (mC (.int c)) (mCons (mDe (mBlt (g1 lenD) (mCons (mVar 0) mNil))) mNil)))) mNil)))) ρ = W.ret (.int (if (if (ns.length : Int) < c then (ns.length : Int) else c) > 1 then (if (ns.length : Int) < c then (ns.length : Int) else c) else 1)) := de_eq (b := false) (blt_eq (ds := [.int 1, .int (if (ns.length : Int) < c then (ns.length : Int) else c)]) (cons_eq rfl (cons_eq e1 rfl)) rfl)
  have hm : ∃ m : Nat, m ≤ 1000 ∧ (if (if (ns.length : Int) < c then (ns.length : Int) else c) > 1 then (if (ns.length : Int) < c then (ns.length : Int) else c) else 1) = (m : Int) := by
    by_cases h4 : (ns.length : Int) < c
    · rw [if_pos h4]
      by_cases h1 : (ns.length : Int) > 1
      · rw [if_pos h1]; exact ⟨ns.length, by omega, rfl⟩
      · rw [if_neg h1]; exact ⟨1, by omega, rfl⟩
    · rw [if_neg h4, if_pos (by omega)]; exact ⟨c, by omega, rfl⟩
  obtain ⟨m, hm4, hm⟩ := hm
  rw [hm] at e2
  refine ⟨m, hm4, ?_⟩
  show W.bind ((mCons (mDe (mBlt (gMM true) (mCons (mC (.int 1)) (mCons (mDe (mBlt (gMM false) (mCons (mC (.int c)) (mCons (mDe (mBlt (g1 lenD) (mCons (mVar 0) mNil))) mNil)))) mNil)))) mNil) ρ) rng1D = _
  rw [cons_eq e2 (show mNil ρ = W.ret [] from rfl), rb]
  exact rng1_eq (by omega)
/-! ### repr of lists and tuples of small things -/
structure Atom (p : PyData) : Prop where
  sh : p.showable = true
  hd : p.hasDict = false
  dp : p.depth = 0
  sok : sOk p.shown = true
  len : p.shown.length ≤ 40
theorem sok_iff {x : Str} : sOk x = true ↔ ∀ c ∈ tl x, c < 0x110000 := by
  show x.cps.all (fun c => decide (c < 0x110000)) = true ↔ _
  rw [← Array.all_toList, List.all_eq_true]
  exact ⟨fun h c hc => of_decide_eq_true (h c hc), fun h c hc => decide_eq_true (h c hc)⟩
theorem sok_app {x y : Str} (hx : sOk x = true) (hy : sOk y = true) : sOk (x ++ y) = true := by
  rw [sok_iff] at *
  intro c hc
  rw [tl_append] at hc
  exact (List.mem_append.mp hc).elim (hx c) (hy c)
theorem sok_joined {y : Str} {ts : List Str} (hy : sOk y = true) (h : ∀ t ∈ ts, sOk t = true) : sOk (Str.join y ts) = true := by
  rw [sok_iff] at *
  intro c hc
  rw [tl_join] at hc
  rcases mem_joinL hc with hc | ⟨p, hp, hc⟩
  · exact hy c hc
  · obtain ⟨t, ht, rfl⟩ := List.mem_map.mp hp
    exact sok_iff.mp (h t ht) c hc
theorem shownAll_map : ∀ l : List PyData, PyData.shownAll l = l.map PyData.shown
  | [] => rfl
  | x :: l => by
    show x.shown :: PyData.shownAll l = _
    rw [shownAll_map l]; rfl
theorem showableAll_of : ∀ {l : List PyData}, (∀ p ∈ l, p.showable = true) → PyData.showableAll l = true
  | [], _ => rfl
  | x :: l, h => by
    show (x.showable && PyData.showableAll l) = true
    rw [h x List.mem_cons_self, showableAll_of fun z hz => h z (List.mem_cons_of_mem _ hz)]; rfl
theorem hasDictAll_of : ∀ {l : List PyData}, (∀ p ∈ l, p.hasDict = false) → PyData.hasDictAll l = false
  | [], _ => rfl
  | x :: l, h => by
    show (x.hasDict || PyData.hasDictAll l) = false
    rw [h x List.mem_cons_self, hasDictAll_of fun z hz => h z (List.mem_cons_of_mem _ hz)]; rfl
theorem tup_shown {l : List PyData} (h : ∀ p ∈ l, sOk p.shown = true ∧ p.shown.length ≤ 10000) (hl : l.length ≤ 1000) : sOk (tupleText (PyData.shownAll l)) = true ∧ (tupleText (PyData.shownAll l)).length ≤ 10003 * l.length + 3 := by
  rw [shownAll_map]
  have hs : ∀ t ∈ l.map PyData.shown, sOk t = true ∧ t.length ≤ 10000 := fun t ht => by
    obtain ⟨p, hp, rfl⟩ := List.mem_map.mp ht
    exact h p hp
  unfold tupleText
  constructor
  · refine sok_app (sok_app (by decide +kernel) (sok_joined (by decide +kernel) fun t ht => (hs t ht).1)) ?_
    split <;> decide +kernel
  · have h1 := len_join ", " (l.map PyData.shown)
    rw [join_eq] at h1
    have h2 := sum_le (l := l.map PyData.shown) (f := (·.length)) (B := 10000) fun t ht => (hs t ht).2
    rw [List.length_map] at h1 h2
    have e1 : ("(" : Str).length = 1 := rfl
    have e2 : (", " : Str).length = 2 := rfl
    have e3 : ((if (l.map PyData.shown).length == 1 then ",)" else ")" : String) : Str).length ≤ 2 := by split <;> decide
    rw [len_app, len_app, e1]
    rw [e2] at h1
    omega
theorem depthAll_0 {l : List PyData} {n : Nat} (h : ∀ p ∈ l, p.depth ≤ n) : PyData.depthAll l ≤ n := depth_all h
/-- things that have a text of repr -/
structure Shows (p : PyData) (n : Nat) : Prop where
  sh : p.showable = true
  hd : p.hasDict = false
  dp : p.depth ≤ n
  sok : sOk p.shown = true
theorem Atom.shows {p : PyData} (h : Atom p) : Shows p 0 := ⟨h.sh, h.hd, Nat.le_of_eq h.dp, h.sok⟩
theorem tup_shows {l : List PyData} {n B : Nat} (h : ∀ p ∈ l, Shows p n ∧ p.shown.length ≤ B) (hB : B ≤ 10000) (hl : l.length ≤ 1000) (hn : n ≤ 50) : Shows (.tuple l) (n + 1) ∧ (PyData.tuple l).shown.length ≤ 10003 * l.length + 3 := by
  have := tup_shown (l := l) (fun p hp => ⟨(h p hp).1.sok, Nat.le_trans (h p hp).2 hB⟩) hl
  exact ⟨⟨showableAll_of fun p hp => (h p hp).1.sh, hasDictAll_of fun p hp => (h p hp).1.hd, Nat.add_le_add_right (depth_all fun p hp => (h p hp).1.dp) 1, this.1⟩, this.2⟩
theorem repr_tup {l : List D} {ps : List PyData} (h : D.pys l = some ps) (hs : ∀ p ∈ ps, Shows p 10 ∧ p.shown.length ≤ 10000) (hl : ps.length ≤ 1000) : ∃ s, sOk s = true ∧ gRepr [.tup l] = W.ret (false, .str s) := by
  obtain ⟨t, tlen⟩ := tup_shows (n := 10) (B := 10000) hs (Nat.le_refl _) hl (by decide)
  refine ⟨(PyData.tuple ps).shown, t.sok, ?_⟩
  show (W.got (D.tup l).py fun p => if shownOk p = true then W.ret (false, D.str p.shown) else W.fail) = _
  have ep : (D.tup l).py = some (.tuple ps) := by
    show (D.pys l).map PyData.tuple = _
    rw [h]; rfl
  rw [ep]
  show (if shownOk (.tuple ps) = true then W.ret (false, D.str (PyData.tuple ps).shown) else W.fail) = _
  have : shownOk (.tuple ps) = true := by
    unfold shownOk
    rw [t.sh, t.hd, decide_eq_true (show (PyData.tuple ps).depth ≤ 60 from Nat.le_trans t.dp (by decide)), decide_eq_true (show (PyData.tuple ps).shown.length ≤ sizeLine by rw [sizeLine_eq]; omega)]; rfl
  rw [if_pos this]
/-- a name as repr shows it -/
theorem seven_shows : ∀ n ∈ seven, Shows (.str n) 0 ∧ (PyData.str n).shown.length ≤ 40 := by
  have h : ∀ n ∈ seven, sOk (reprText n) = true ∧ (reprText n).length ≤ 40 := by decide +kernel
  intro n hn
  exact ⟨⟨rfl, rfl, Nat.le_refl _, (h n hn).1⟩, (h n hn).2⟩
theorem repr_names {l : List Str} (h : ∀ n ∈ l, n ∈ seven) (hl : l.length ≤ 1000) : ∃ s, sOk s = true ∧ gRepr [.tup (l.map D.str)] = W.ret (false, .str s) :=
  repr_tup (pys_map D.str PyData.str (fun _ => rfl) l) (fun p hp => by
    obtain ⟨n, hn, rfl⟩ := List.mem_map.mp hp
    obtain ⟨s, k⟩ := seven_shows n (h n hn)
    exact ⟨⟨s.sh, s.hd, Nat.le_trans s.dp (by decide), s.sok⟩, Nat.le_trans k (by decide)⟩) (by rw [List.length_map]; exact hl)
end FbL
end

section
set_option Elab.async false
set_option linter.all false
set_option maxRecDepth 100000
set_option maxHeartbeats 1000000
namespace FbL
open PySem PySem.Spec PyProof.Rows L2 Fb TL
abbrev Sl := Option (Bool × D)
theorem imm_pl (P : Pl) : imm (plD P) = true := by
  show (imms (P.ps.map perD) && (imms (P.ms.map metD) && true)) = true
  rw [imms_of perD imm_per, imms_of metD imm_met]; rfl
theorem seqq {m n : En → WS} {ρ : En} {Q : Fl × En → Prop} {E : Ex × En → Prop} (h : m ρ (fun q => andThen n q Q E) E) : mSeq m n ρ Q E := h
theorem imms_fst (ws : Wl) : imms (ws.map fstD) = true := imms_of fstD (fun _ => rfl) ws
theorem ro_len (ρ : En) : (ro ρ).length = ρ.length := by
  unfold ro
  induction ρ with
  | nil => rfl
  | cons x r ih => rw [roFrom_cons, List.length_cons, ih, List.length_cons]
theorem see_len (fz : List Nat) (ρ : En) : (see fz ρ).length = ρ.length := by
  have : ∀ (ρ : En) k, (seeFrom fz k ρ).length = ρ.length := by
    intro ρ
    induction ρ with
    | nil => intro k; rfl
    | cons x r ih => intro k; rw [seeFrom_cons, List.length_cons, ih, List.length_cons]
  exact this ρ 0
/-- the slot of a comprehension, and the others -/
theorem lc_var {R : Ro} {v : Nat} (h : v < R.length) (x : D) : mVar v (setR (wipeR R [v]) [(v, x)]) = W.ret x := by
  show gotD ((R.set v none).set v (some x))[v]? = _
  rw [List.getElem?_set_self (by rw [List.length_set]; exact h)]; rfl
theorem lc_else {R : Ro} {v i : Nat} (h : v ≠ i) (x : D) : mVar i (setR (wipeR R [v]) [(v, x)]) = mVar i R := by
  show gotD ((R.set v none).set v (some x))[i]? = gotD R[i]?
  rw [List.getElem?_set_ne h, List.getElem?_set_ne h]
theorem lc2_fst {R : Ro} {v u : Nat} (hv : v < R.length) (hne : u ≠ v) (x y : D) : mVar v (setR (wipeR R [v, u]) [(v, x), (u, y)]) = W.ret x := by
  show gotD ((((R.set u none).set v none).set v (some x)).set u (some y))[v]? = _
  rw [List.getElem?_set_ne hne, List.getElem?_set_self (by rw [List.length_set, List.length_set]; exact hv)]; rfl
theorem lc2_snd {R : Ro} {v u : Nat} (hu : u < R.length) (x y : D) : mVar u (setR (wipeR R [v, u]) [(v, x), (u, y)]) = W.ret y := by
  show gotD ((((R.set u none).set v none).set v (some x)).set u (some y))[u]? = _
  rw [List.getElem?_set_self (by rw [List.length_set, List.length_set, List.length_set]; exact hu)]; rfl
theorem lc2_else {R : Ro} {v u i : Nat} (hv : v ≠ i) (hu : u ≠ i) (x y : D) : mVar i (setR (wipeR R [v, u]) [(v, x), (u, y)]) = mVar i R := by
  show gotD ((((R.set u none).set v none).set v (some x)).set u (some y))[i]? = gotD R[i]?
  rw [List.getElem?_set_ne hu, List.getElem?_set_ne hv, List.getElem?_set_ne hv, List.getElem?_set_ne hu]
theorem eq_same {d : D} {p : PyData} (h : d.py = some p) (hc : p.canLay0 = true) (hd : p.depth ≤ 64) (neg : Bool) : gEq neg d d = W.ret (.bl (true != neg)) := by
  have hs : SeqAt.shaped p = true := by
    show (p.canLay0 && decide (p.depth ≤ 64)) = true
    rw [hc, decide_eq_true hd]; rfl
  have : D.deq d d = some true := by
    unfold D.deq
    rw [h]
    show (if SeqAt.shaped p = true ∧ SeqAt.shaped p = true then some (PyData.eqv p p) else none) = _
    rw [if_pos ⟨hs, hs⟩, PySem.SeqAt.eqv_refl p hc]
  unfold gEq
  rw [this]
theorem eq_sameT {l : List D} {ps : List PyData} (h : D.pys l = some ps) (hs : ∀ p ∈ ps, p.canLay0 = true ∧ p.depth ≤ 60) (neg : Bool) : gEq neg (.tup l) (.tup l) = W.ret (.bl (true != neg)) := by
  refine eq_same (p := .tuple ps) (by show (D.pys l).map PyData.tuple = _; rw [h]; rfl) (canLay_all fun d hd => (hs d hd).1) ?_ neg
  show PyData.depthAll ps + 1 ≤ 64
  have := depth_all fun d hd => (hs d hd).2
  omega
theorem eq_sameL {l : List D} {ps : List PyData} (h : D.pys l = some ps) (hs : ∀ p ∈ ps, p.canLay0 = true ∧ p.depth ≤ 60) (neg : Bool) : gEq neg (.lst l) (.lst l) = W.ret (.bl (true != neg)) := by
  refine eq_same (p := .list ps) (by show (D.pys l).map PyData.list = _; rw [h]; rfl) (canLay_all fun d hd => (hs d hd).1) ?_ neg
  show PyData.depthAll ps + 1 ≤ 64
  have := depth_all fun d hd => (hs d hd).2
  omega
def optP : Option Int → PyData
  | none => .none
  | some i => .int i
theorem py_opt (o : Option Int) : (optD o).py = some (optP o) := by cases o <;> rfl
theorem pys_opts (l : List (Option Int)) : D.pys (l.map optD) = some (l.map optP) := pys_map optD optP py_opt l
theorem lay_opts (l : List (Option Int)) : ∀ p ∈ l.map optP, p.canLay0 = true ∧ p.depth ≤ 60 := fun p hp => by
  obtain ⟨o, _, rfl⟩ := List.mem_map.mp hp
  cases o <;> exact ⟨rfl, Nat.zero_le _⟩
theorem same_opts (l : List (Option Int)) (neg : Bool) : gEq neg (.tup (l.map optD)) (.tup (l.map optD)) = W.ret (.bl (true != neg)) := eq_sameT (pys_opts l) (lay_opts l) neg
theorem opt_shows {o : Option Int} (h : ∀ i, o = some i → NumOk i) : Shows (optP o) 0 ∧ (optP o).shown.length ≤ 40 := by
  rcases o with _ | i
  · exact ⟨⟨rfl, rfl, Nat.le_refl _, by decide +kernel⟩, by decide +kernel⟩
  · have hi := h i rfl
    refine ⟨⟨?_, rfl, Nat.le_refl _, hi.sok⟩, Nat.le_trans hi.len (by decide)⟩
    show decide (i.natAbs.log2 < 1920) = true
    refine decide_eq_true ?_
    by_cases z : i.natAbs = 0
    · rw [z]; decide
    · refine Nat.lt_of_lt_of_le ((Nat.log2_lt z).mpr (show i.natAbs < 2 ^ 64 by have := hi.lt; have := hi.ge; omega)) (by decide)
theorem repr_opts {l : List (Option Int)} (h : ∀ o ∈ l, ∀ i, o = some i → NumOk i) (hl : l.length ≤ 1000) : ∃ s, sOk s = true ∧ gRepr [.tup (l.map optD)] = W.ret (false, .str s) :=
  repr_tup (pys_opts l) (fun p hp => by
    obtain ⟨o, ho, rfl⟩ := List.mem_map.mp hp
    obtain ⟨s, k⟩ := opt_shows (h o ho)
    exact ⟨⟨s.sh, s.hd, Nat.le_trans s.dp (by decide), s.sok⟩, Nat.le_trans k (by decide)⟩) (by rw [List.length_map]; exact hl)
theorem differ {m1 m2 : Ro → W Ex D} {R : Ro} {l : List D} {s : Str} (hs : sOk s = true) (hr : gRepr [.tup l] = W.ret (false, .str s)) (h1 : m1 R = W.ret (.tup l)) (h2 : m2 R = W.ret (.tup l)) : (mTest (mOp (gEq true) (mDe (mBlt (gRepr) (mCons m1 mNil))) (mDe (mBlt (gRepr) (mCons m2 mNil))))) R = W.ret false :=
  test_eq _ (op_eq (a := .str s) (b := .str s) (de_eq (b := false) (blt_eq (cons_eq h1 rfl) hr)) (de_eq (b := false) (blt_eq (cons_eq h2 rfl) hr)) (not_self hs))
theorem fst_lay (ws : Wl) (h : ∀ w ∈ ws, sOk w.1 = true) : ∃ ps, D.pys (ws.map fstD) = some ps ∧ ∀ p ∈ ps, p.canLay0 = true ∧ p.depth ≤ 60 := by
  refine ⟨ws.map fun w => .tuple [.str w.1, .int w.2], pys_map fstD _ (fun _ => rfl) ws, fun p hp => ?_⟩
  obtain ⟨w, hw, rfl⟩ := List.mem_map.mp hp
  exact ⟨by show (sOk w.1 && _) = true; rw [h w hw]; rfl, by show 1 ≤ 60; decide⟩
/-! ### the first steps of a turn -/
theorem drawn_set {fz : List Nat} {i : Nat} {a : Ro → W Ex (List D)} {ρ : En} {mn be me : Int} (h1 : 2 ≤ mn ∧ mn ≤ 100 ∧ 0 ≤ me ∧ me ≤ 99) (ha : a (see fz ρ) = W.ret [.box 1, .int mn, .int be, .int me]) {Q : Fl × En → Prop} {E : Ex × En → Prop} (q : ∀ P, Drawn P → Q (.nx, (frz fz ρ).set i (some (true, toldD P)))) : mSet fz i (mCall 4 sem__law_drawn [] a) ρ Q E := by
  refine setrun ?_
  rw [call_un (n := 4) ha rfl]
  refine drawn_sem h1.1 h1.2.1 h1.2.2.1 h1.2.2.2 _ _ fun P hP => ?_
  rw [asg_frz (r := (true, toldD P)) rfl]
  exact q P hP
theorem world_set {fz : List Nat} {i b t : Nat} {ρ : En} {P : Pl} (hP : Drawn P) (hb : mVar b (see fz ρ) = W.ret (.box 1)) (ht : mVar t (see fz ρ) = W.ret (toldD P)) {Q : Fl × En → Prop} {E : Ex × En → Prop} (q : ∀ ws ∈ worldsM P.ps, Q (.nx, (frz fz ρ).set i (some (false, wD ws)))) :
    mSet fz i (mCall 2 sem__law_one_of [] (mCons (mVar b) (mCons (mDe (mCall 1 sem__law_worlds [] (mCons (mVar t) mNil))) mNil))) ρ Q E := by
  refine setrun ?_
  obtain ⟨f1, hw⟩ := hP.worlds
  refine one_of_run (l := (worldsM P.ps).map wD) (fun e => worldsM_ne P.ps (List.map_eq_nil_iff.mp e)) (by rw [List.length_map]; exact hP.wlen) (cons_eq hb (cons_eq (de_eq (call_eq (ds := [toldD P]) (cons_eq ht rfl) rfl hw)) rfl)) fun x hx => ?_
  obtain ⟨ws, hws, rfl⟩ := List.mem_map.mp hx
  rw [asg_frz (r := (false, wD ws)) rfl]
  exact q ws hws
theorem items_eq {i : Nat} {ws : Wl} {R : Ro} (h : mVar i R = W.ret (wD ws)) : mListItems (mVar i) R = W.ret (true, .lst (ws.map fstD)) := by
  unfold mListItems
  rw [h]
  show W.ret (true, D.lst ((ws.map fstK).map Fb.pairD)) = _
  rw [List.map_map]; rfl
def unF : D → Str × Int
  | .tup [.str n, .int d] => (n, d)
  | _ => ("", 0)
/-- a world in another order -/
theorem fstF_perm {ws ws' : Wl} (nd : (ws.map (·.1)).Nodup) (h : ws'.Perm ws) : fstF ws' = fstF ws := by
  have nd' : (ws'.map (·.1)).Nodup := (h.map (·.1)).nodup_iff.mpr nd
  have key : ∀ (l : Wl), (l.map (·.1)).Nodup → ∀ w ∈ l, fstF l w.1 = some w.2 := by
    intro l
    induction l with
    | nil => intro _ w hw; cases hw
    | cons x l ih =>
      intro hn w hw
      rw [List.map_cons, List.nodup_cons] at hn
      unfold fstF
      rw [List.find?_cons]
      rcases List.mem_cons.mp hw with rfl | hw
      · rw [decide_eq_true rfl]; rfl
      · have : x.1 ≠ w.1 := fun e => hn.1 (by rw [e]; exact List.mem_map_of_mem hw)
        rw [decide_eq_false this]
        exact ih hn.2 w hw
  have none_of : ∀ (l : Wl) n, n ∉ l.map (·.1) → fstF l n = none := by
    intro l n hn
    unfold fstF
    rw [List.find?_eq_none.mpr fun w hw => by
      simp only [decide_eq_true_eq]
      exact fun e => hn (by rw [← e]; exact List.mem_map_of_mem hw)]
    rfl
  funext n
  by_cases hn : n ∈ ws.map (·.1)
  · obtain ⟨w, hw, rfl⟩ := List.mem_map.mp hn
    rw [key ws nd w hw, key ws' nd' w (h.mem_iff.mpr hw)]
  · rw [none_of ws n hn, none_of ws' n fun z => hn ((h.map (·.1)).mem_iff.mp z)]
theorem fstF_mem {ws : Wl} {n : Str} {v : Int} (h : fstF ws n = some v) : (n, v) ∈ ws := by
  unfold fstF at h
  rcases e : ws.find? (fun w => decide (w.1 = n)) with _ | w
  · rw [e] at h; cases h
  · rw [e] at h
    cases h
    have h1 := List.mem_of_find?_eq_some e
    have h2 := List.find?_some e
    rw [← of_decide_eq_true h2]
    exact h1
theorem WOk.perm {P : Pl} {ws ws' : Wl} (h : WOk P ws) (p : ws'.Perm ws) : WOk P ws' := ⟨by rw [p.length_eq]; exact h.len, fun w hw => h.ok w (p.mem_iff.mp hw), (p.map (·.1)).nodup_iff.mpr h.nd⟩
theorem since_perm {P : Pl} {ws ws' : Wl} (h : WOk P ws) (p : ws'.Perm ws) : sinceM P ws' = sinceM P ws := by
  unfold sinceM
  rw [fstF_perm h.nd p]
theorem since_val {P : Pl} {ws : Wl} {n : Str} {v : Int} (h : sinceM P ws n = some v) : (n, v) ∈ ws ∨ ∃ m ∈ P.ms, v = m.day := by
  rcases fold_val (wt := waitOf P.ps) _ _ h with h | ⟨m, hm, e⟩
  · exact .inl (fstF_mem h)
  · exact .inr ⟨m, (List.mergeSort_perm P.ms leM).mem_iff.mp hm, e⟩
theorem Drawn.since_num {P : Pl} (h : Drawn P) {ws : Wl} (hw : WOk P ws) {n : Str} {v : Int} (e : sinceM P ws n = some v) : 0 ≤ v ∧ v ≤ 11 := by
  rcases since_val e with h1 | ⟨m, hm, rfl⟩
  · obtain ⟨p, hp, _, lo, hi, es, h0, h1, h2⟩ := hw.ok _ h1
    obtain ⟨z1, z2, z3, z4⟩ := (h.per p hp).sp lo hi es
    have h1 : lo ≤ v := h1
    have h2 : v ≤ hi := h2
    omega
  · obtain ⟨z1, z2, _⟩ := h.met m hm
    omega
theorem Drawn.sz {P : Pl} (h : Drawn P) : P.ps.length < sizeLine := Nat.lt_of_lt_of_le (show P.ps.length < 1000 by have := h.most; omega) sizeLine_ge
theorem Drawn.met_in {P : Pl} (h : Drawn P) : ∀ m ∈ P.ms, m.one ≠ m.other ∧ m.one ∈ P.names ∧ m.other ∈ P.names := fun m hm => ⟨(h.met m hm).2.2.1, (h.met m hm).2.2.2⟩
theorem Pl.Ok.wait {P : Pl} (h : P.Ok) {n : Str} (hn : n ∈ P.names) : 1 ≤ waitOf P.ps n := by
  obtain ⟨p, e, hp, _⟩ := perOf_mem hn
  have := h.per p hp
  unfold perOk at this
  have := of_decide_eq_true (Bool.and_eq_true_iff.mp (Bool.and_eq_true_iff.mp this).2).1
  unfold waitOf
  rw [e]; exact this
theorem Pl.Ok.mets {P : Pl} (h : P.Ok) : ∀ m ∈ P.ms, m.one ≠ m.other ∧ m.one ∈ P.names ∧ m.other ∈ P.names := fun m hm => by
  have := h.met m hm
  unfold metOk at this
  have h0 := (Bool.and_eq_true_iff.mp this).2
  have h1 := (Bool.and_eq_true_iff.mp h0).2
  have h3 := (Bool.and_eq_true_iff.mp (Bool.and_eq_true_iff.mp h0).1).2
  obtain ⟨h1, h2⟩ := Bool.and_eq_true_iff.mp h1
  obtain ⟨x, hx, e⟩ := List.any_eq_true.mp h1
  obtain ⟨y, hy, e2⟩ := List.any_eq_true.mp h2
  rw [← eq_of_beq e, ← eq_of_beq e2]
  refine ⟨fun z => ?_, hx, hy⟩
  rw [← eq_of_beq e, ← eq_of_beq e2, z, beq_self_eq_true] at h3
  cases h3
/-- since, by going over the meetings -/
theorem since_rounds {P : Pl} (h : P.Ok) (ws : Wl) (k : Nat) (hk : P.ms.length ≤ k) : sinceM P ws = roundsM (waitOf P.ps) P.ms k (fstF ws) :=
  (rounds_eq (fun m hm => ⟨(h.mets m hm).1, h.wait (h.mets m hm).2.1, h.wait (h.mets m hm).2.2⟩) k hk (fstF ws)).symm
end FbL
end

section
set_option Elab.async false
set_option linter.all false
set_option maxRecDepth 100000
set_option maxHeartbeats 4000000
namespace FbL
open PySem PySem.Spec PyProof.Rows L2 Fb
theorem meth_eq {nm : Str} {n : Nat} {sem : List D → Rt} {P : Pl} {m : Ro → W Ex D} {a : Ro → W Ex (List D)} {ρ : Ro} {ds : List D} {r : Bool × D} (hm : m ρ = W.ret (plD P)) (hn : (plF P).lookup nm = none) (ha : a ρ = W.ret ds) (hl : ds.length + 1 = n) (h : sem (plD P :: ds) = W.ret r) : mMeth "Plan" nm n sem [] m a ρ = W.ret r := by
  show (W.bind (m ρ) fun d => W.got (asIns "Plan" d) fun fs => if fs.lookup nm = none then W.bind (a ρ) fun ds => if (d :: (ds ++ [])).length = n then sem (d :: (ds ++ [])) else W.fail else W.fail) = _
  rw [hm]
  show (if (plF P).lookup nm = none then W.bind (a ρ) fun ds => if (plD P :: (ds ++ [])).length = n then sem (plD P :: (ds ++ [])) else W.fail else W.fail) = _
  rw [if_pos hn, ha]
  show (if (plD P :: (ds ++ [])).length = n then sem (plD P :: (ds ++ [])) else W.fail) = _
  rw [List.append_nil, if_pos (by rw [List.length_cons]; exact hl), h]
/-! ### place -/
def plcE (A : D) (x : Str) (a b : Option (Bool × D)) : En := [some (false, A), some (false, .str x), a, b]
def plcB : En → WS := (mIf (mTest (mOp (gEq false) (mOp gIx (mVar 3) (mC (.int 0))) (mVar 1))) (mRetV 2) mSkip)
def idxM : List Per → Str → Nat → Nat
  | [], _, k => k
  | p :: ps, x, k => if p.nm = x then k else idxM ps x (k + 1)
theorem plcLoop {A : D} {x : Str} (hx : sOk x = true) : ∀ (ps : List Per) (k : Nat) (a b : Option (Bool × D)), (∀ p ∈ ps, sOk p.nm = true) → x ∈ ps.map (·.nm) →
    ∃ ρ', forN (pTup 2 (pCons (pName 2) (pCons (pName 3) pNil))) plcB (enD k (ps.map perD)) (plcE A x a b) = W.ret (.rt (false, .int (idxM ps x k)), ρ')
  | [], _, _, _, _, h => nomatch h
  | p :: ps, k, a, b, ho, h => by
    have e1 : (mTest (mOp (gEq false) (mOp gIx (mVar 3) (mC (.int 0))) (mVar 1))) (ro (plcE A x (some (false, .int k)) (some (false, perD p)))) = W.ret (decide (p.nm = x)) := by
      refine test_eq _ (op_eq (a := .str p.nm) (b := .str x) rfl rfl ?_)
      rw [eq_str false (ho p List.mem_cons_self) hx]
      by_cases e : p.nm = x
      · rw [decide_eq_true e, beq_iff_eq.mpr e]; rfl
      · rw [decide_eq_false e, beq_eq_false_iff_ne.mpr e]; rfl
    by_cases e : p.nm = x
    · rw [decide_eq_true e] at e1
      refine ⟨plcE A x (some (false, .int k)) (some (false, perD p)), ?_⟩
      rw [List.map_cons]
      show (W.bind (plcB (plcE A x (some (false, .int k)) (some (false, perD p)))) _) = _
      have e2 : plcB (plcE A x (some (false, .int k)) (some (false, perD p))) = W.ret (.rt (false, .int k), plcE A x (some (false, .int k)) (some (false, perD p))) := (if_eq true e1).trans rfl
      rw [e2]
      unfold idxM
      rw [if_pos e]; rfl
    · rw [decide_eq_false e] at e1
      obtain ⟨ρ', ih⟩ := plcLoop (A := A) hx ps (k + 1) (some (false, .int k)) (some (false, perD p)) (fun z hz => ho z (List.mem_cons_of_mem _ hz)) (by
        rcases List.mem_cons.mp h with z | z
        · exact absurd z.symm e
        · exact z)
      refine ⟨ρ', ?_⟩
      rw [List.map_cons]
      show (W.bind (plcB (plcE A x (some (false, .int k)) (some (false, perD p)))) _) = _
      have e2 : plcB (plcE A x (some (false, .int k)) (some (false, perD p))) = W.ret (.nx, plcE A x (some (false, .int k)) (some (false, perD p))) := (if_eq false e1).trans rfl
      rw [e2]
      unfold idxM
      rw [if_neg e]
      exact ih
theorem idx_at : ∀ (ps : List Per) (x : Str) (k : Nat) {p : Per}, perOf ps x = some p → k ≤ idxM ps x k ∧ ps[idxM ps x k - k]? = some p
  | [], _, _, _, h => nomatch h
  | q :: ps, x, k, p, h => by
    unfold perOf at h
    rw [List.find?_cons] at h
    unfold idxM
    by_cases e : q.nm = x
    · rw [decide_eq_true e] at h
      rw [if_pos e, Nat.sub_self]
      exact ⟨Nat.le_refl _, h⟩
    · rw [decide_eq_false e] at h
      obtain ⟨h1, h2⟩ := idx_at ps x (k + 1) (p := p) h
      rw [if_neg e]
      refine ⟨by omega, ?_⟩
      have : idxM ps x (k + 1) - k = (idxM ps x (k + 1) - (k + 1)) + 1 := by omega
      rw [this]
      exact h2
theorem ix_people (P : Pl) (h : P.Ok) {x : Str} {p : Per} (hp : perOf P.ps x = some p) : gIx (.tup (P.ps.map perD)) (.int (idxM P.ps x 0)) = W.ret (perD p) := by
  obtain ⟨_, e⟩ := idx_at P.ps x 0 hp
  rw [Nat.sub_zero] at e
  unfold gIx
  show (match atI (P.ps.map perD) (idxM P.ps x 0) with | some d => W.ret d | none => W.fail) = _
  have hl : idxM P.ps x 0 < P.ps.length := (List.getElem?_eq_some_iff.mp e).1
  have : atI (P.ps.map perD) (idxM P.ps x 0) = some (perD p) := by
    rw [atI_map]
    unfold atI ixN
    rw [if_pos (Int.natCast_nonneg _), if_pos (Int.ofNat_lt.mpr hl)]
    show (P.ps[(idxM P.ps x 0 : Int).toNat]?).map perD = _
    rw [Int.toNat_natCast, e]; rfl
  rw [this]
/-! ### looks -/
structure Lk where
  day : Int
  nm : Str
  sh : Bool
def lookD (l : Lk) : D := .tup [.int l.day, .str l.nm, .bl l.sh]
/-- whether a look holds by days -/
def holdsM (P : Pl) (g : Str → Option Int) (l : Lk) : Bool := match perOf P.ps l.nm with
  | some p => l.sh == inLot g (·.s) l.day p
  | none => false
theorem eq_bl (a b : Bool) : gEq false (.bl a) (.bl b) = W.ret (.bl (a == b)) := by cases a <;> cases b <;> rfl
structure LkOk (P : Pl) (l : Lk) : Prop where
  day : 0 ≤ l.day
  nm : l.nm ∈ P.names
theorem in_tups (neg : Bool) {x : Str} {l : List Str} (hx : sOk x = true) (h : ∀ y ∈ l, sOk y = true) : gIn neg (.str x) (.tup (l.map D.str)) = W.ret (.bl ((l.any fun y => y == x) != neg)) := by
  unfold gIn
  show (match seqIn (l.map D.str) (.str x) with | some t => W.ret (D.bl (t != neg)) | none => W.fail) = _
  rw [seqIn_strs hx h]
def nlE (A B : D) (a b : Option (Bool × D)) : En := [some (false, A), some (false, B), a, b]
/-- the numbers of those that do not hold -/
def brokenL (hd : Lk → Bool) : List Lk → Nat → List D
  | [], _ => []
  | l :: ls, k => if hd l = true then brokenL hd ls (k + 1) else .int k :: brokenL hd ls (k + 1)
end FbL
end

section
set_option Elab.async false
set_option linter.all false
set_option maxRecDepth 100000
set_option maxHeartbeats 1000000
namespace FbL
open PySem PySem.Spec PyProof.Rows L2 Fb TL
def sn0 : En → WS := (mSet [] 4 (mLst mNil))
def sn1B0 : En → WS := (mPar [(6, [0, 1], (mDr (mOp gIx (mDe (mCall 2 sem__law_one_of [] (mCons (mVar 0) (mCons (mOp gIx (mVar 1) (mC (.int 0))) mNil)))) (mC (.int 0))))), (7, [0], (mCall 2 sem__law_choose [] (mCons (mVar 0) (mCons (mC (.int 15)) mNil))))])
def sn1B2 : En → WS := (mApp [7, 6, 8, 0] 4 (mTup (mCons (mVar 7) (mCons (mVar 6) (mCons (mIfE (mTest (mOp gGt (mDe (mCall 2 sem__law_choose [] (mCons (mVar 0) (mCons (mC (.int 9)) mNil)))) (mC (.int 0)))) (mVar 8) (mNotV (mVar 8))) mNil)))))
def sn2 : En → WS := (mRetV 4)
def si0 : En → WS := (mSet [0, 2] 4 (mDr (mOp gIx (mDe (mLc (mWalk (mOp gIx (mVar 0) (mC (.int 0)))) [5] (pName 5) (mTest (mOp (gEq false) (mOp gIx (mVar 5) (mC (.int 0))) (mVar 2))) (mOp gIx (mVar 5) (mC (.int 2))))) (mC (.int 0)))))
def si1 : En → WS := (mRet (mDr (mAndV (mOp (gIs true) (mOp gIx (mVar 1) (mVar 2)) (mC .non)) (mOp gLe (mDe (mOpR gAdd (mOp gIx (mVar 1) (mVar 2)) (mVar 4))) (mVar 3)))))
def si : En → WS := mSeq si0 si1
def showsM (P : Pl) (g : Dy) (n : Str) (on : Int) : Bool := match perOf P.ps n with
  | some p => inLot g (·.s) on p
  | none => false
theorem par2run {i j : Nat} {fi fj : List Nat} {m n : Ro → W Ex (Bool × D)} {ρ : En} {Q : Fl × En → Prop} {E : Ex × En → Prop} (h : m (wipeR (see fi ρ) []) (fun r1 => n (wipeR (see fj (asg fi i r1 ρ)) [i]) (fun r2 => Q (.nx, asg fj j r2 (asg fi i r1 ρ))) (fun x => E (x, ρ))) (fun x => E (x, ρ))) : mPar [(i, fi, m), (j, fj, n)] ρ Q E := h
theorem tup3run {m1 m2 m3 : Ro → W Ex D} {R : Ro} {a b : D} (h1 : m1 R = W.ret a) (h2 : m2 R = W.ret b) {Q : D → Prop} {E : Ex → Prop} (h : m3 R (fun d => Q (.tup [a, b, d])) E) : mTup (mCons m1 (mCons m2 (mCons m3 mNil))) R Q E := by
  have : mTup (mCons m1 (mCons m2 (mCons m3 mNil))) R = W.bind (m3 R) fun d => W.ret (.tup [a, b, d]) := by
    show W.bind (W.bind (m1 R) fun d => W.bind (W.bind (m2 R) fun d => W.bind (W.bind (m3 R) fun d => W.bind (W.ret []) fun ds => W.ret (d :: ds)) fun ds => W.ret (d :: ds)) fun ds => W.ret (d :: ds)) (fun ds => szd ds (W.ret (D.tup ds))) = _
    rw [h1, h2]
    show (W.bind (m3 R) fun d => szd [a, b, d] (W.ret (D.tup [a, b, d]))) = _
    refine congrArg (W.bind (m3 R)) (funext fun d => ?_)
    unfold szd
    rw [if_pos (small (by show 3 ≤ 1000; decide))]
  rw [this]; exact h
def snE (P : Pl) (g : Dy) (mn : Int) (acc : List Lk) (a b c e : Sl) : En := [some (false, .box 1), some (false, toldD P), some (false, .int mn), some (false, .dic (dayD P.names g)), some (true, .lst (acc.map lookD)), a, b, c, e]
theorem frzSn {P : Pl} {g : Dy} {mn : Int} {acc : List Lk} {a b c e : Sl} (fz : List Nat) (h : fz.contains 4 = false) : frz fz (snE P g mn acc a b c e) = snE P g mn acc (frz1 (fz.contains 5) a) (frz1 (fz.contains 6) b) (frz1 (fz.contains 7) c) (frz1 (fz.contains 8) e) := by
  unfold frz snE
  simp only [frzFrom_cons]
  show _ :: _ :: _ :: _ :: some (true && !(fz.contains 4), _) :: _ = _
  rw [h]; rfl
end FbL
end

section
set_option Elab.async false
set_option linter.all false
set_option maxRecDepth 100000
set_option maxHeartbeats 1000000
namespace FbL
open PySem PySem.Spec PyProof.Rows L2 Fb TL
theorem shows_holds {P : Pl} (g : Dy) {l : Lk} (hn : l.nm ∈ P.names) : (showsM P g l.nm l.day != l.sh) = !holdsM P g l := by
  obtain ⟨p, e, hp, en⟩ := perOf_mem hn
  unfold showsM holdsM
  rw [e]
  show (inLot g (·.s) l.day p != l.sh) = !(l.sh == inLot g (·.s) l.day p)
  generalize inLot g (·.s) l.day p = b
  cases b <;> cases l.sh <;> rfl
theorem ne_bl (a b : Bool) : gEq true (.bl a) (.bl b) = W.ret (.bl (a != b)) := by cases a <;> cases b <;> rfl
theorem broken_ints : ∀ (hd : Lk → Bool) (ls : List Lk) (k : Nat), ∃ is : List Int, brokenL hd ls k = is.map D.int ∧ is.length ≤ ls.length ∧ ∀ i ∈ is, 0 ≤ i ∧ i < k + ls.length
  | hd, [], k => ⟨[], rfl, Nat.le_refl _, fun i hi => nomatch hi⟩
  | hd, l :: ls, k => by
    obtain ⟨is, e, h1, h2⟩ := broken_ints hd ls (k + 1)
    unfold brokenL
    rw [e]
    split
    · exact ⟨is, rfl, by rw [List.length_cons]; omega, fun i hi => by have := h2 i hi; rw [List.length_cons]; omega⟩
    · refine ⟨k :: is, rfl, by rw [List.length_cons, List.length_cons]; omega, fun i hi => ?_⟩
      rcases List.mem_cons.mp hi with rfl | hi
      · rw [List.length_cons]; omega
      · have := h2 i hi
        rw [List.length_cons]; omega
theorem pys_ints (is : List Int) : D.pys (is.map D.int) = some (is.map PyData.int) := pys_map D.int PyData.int (fun _ => rfl) is
theorem int_shows {i : Int} (h : NumOk i) : Shows (.int i) 0 ∧ (PyData.int i).shown.length ≤ 40 := opt_shows (o := some i) fun j e => by cases e; exact h
theorem repr_ints {l : List Int} (h : ∀ i ∈ l, NumOk i) (hl : l.length ≤ 1000) : ∃ s, sOk s = true ∧ gRepr [.tup (l.map D.int)] = W.ret (false, .str s) :=
  repr_tup (pys_ints l) (fun p hp => by
    obtain ⟨o, ho, rfl⟩ := List.mem_map.mp hp
    obtain ⟨s, k⟩ := int_shows (h o ho)
    exact ⟨⟨s.sh, s.hd, Nat.le_trans s.dp (by decide), s.sok⟩, Nat.le_trans k (by decide)⟩) (by rw [List.length_map]; exact hl)
theorem eq_nil {is : List Int} : gEq false (.lst (is.map D.int)) (.lst []) = W.ret (.bl (((is.map D.int).length : Int) == 0)) := by
  have py : (D.lst (is.map D.int)).py = some (.list (is.map PyData.int)) := by
    show (D.pys (is.map D.int)).map PyData.list = _
    rw [pys_ints]; rfl
  have hs : SeqAt.shaped (.list (is.map PyData.int)) = true := (shaped_list fun p hp => by
    obtain ⟨i, _, rfl⟩ := List.mem_map.mp hp
    exact ⟨rfl, Nat.zero_le _⟩).1
  have : D.deq (.lst (is.map D.int)) (.lst []) = some (((is.map D.int).length : Int) == 0) := by
    unfold D.deq
    rw [py]
    show (if SeqAt.shaped (.list (is.map PyData.int)) = true ∧ SeqAt.shaped (.list []) = true then some (PyData.eqvAll (is.map PyData.int) []) else none) = _
    rw [if_pos ⟨hs, rfl⟩]
    cases is with
    | nil => rfl
    | cons a l => 
      show some false = _
      rw [List.map_cons, List.length_cons]
      refine congrArg some (Eq.symm (beq_eq_false_iff_ne.mpr ?_))
      omega
  unfold gEq
  rw [this]
  show W.ret (D.bl (_ != false)) = _
  rw [Bool.bne_false]
end FbL
end

section
set_option Elab.async false
set_option linter.all false
set_option maxRecDepth 100000
set_option maxHeartbeats 1000000
namespace FbL
open PySem PySem.Spec PyProof.Rows L2 Fb TL
def le0 : En → WS := (mIf (mOr (mTest (mOp (gIs false) (mVar 0) (mC .non))) (mTest (mOp (gIs false) (mVar 1) (mC .non)))) (mRet (mDr (mIfE (mTest (mOp (gIs false) (mVar 0) (mC .non))) (mVar 1) (mVar 0)))) mSkip)
def le1 : En → WS := (mRet (mDr (mIfE (mTest (mOp gLt (mVar 0) (mVar 1))) (mVar 0) (mVar 1))))
def le : En → WS := mSeq le0 le1
theorem le_sem : sem__law_least = runBody 2 le := rfl
def lt0 : En → WS := (mRet (mDr (mAndV (mOp (gIs true) (mVar 1) (mC .non)) (mOrV (mOp (gIs false) (mVar 0) (mC .non)) (mOp gGt (mVar 0) (mVar 1))))))
def lt : En → WS := lt0
theorem lt_sem : sem__law_is_later = runBody 2 lt := rfl
def leastM : Option Int → Option Int → Option Int
  | none, b => b
  | some a, none => some a
  | some a, some b => if a < b then some a else some b
theorem least_eq (a b : Option Int) : sem__law_least [optD a, optD b] = W.ret (false, optD (leastM a b)) := by
  rw [le_sem]
  refine run_ret _ _ _ _ [some (false, optD a), some (false, optD b)] ?_
  rcases a with _ | a
  · exact seq_rt ((if_eq true (or_eq true true rfl fun z => nomatch z)).trans (ret_eq rfl))
  · rcases b with _ | b
    · exact seq_rt ((if_eq true (or_eq false true rfl fun _ => rfl)).trans (ret_eq rfl))
    · refine (guardN (or_eq false false rfl fun _ => rfl)).trans (ret_eq ?_)
      show (W.bind (W.bind (W.ret (decide (a < b))) fun t => if t = true then W.ret (D.int a) else W.ret (D.int b)) fun d => W.ret (false, d)) = W.ret (false, optD (if a < b then some a else some b))
      by_cases h : a < b
      · rw [decide_eq_true h, if_pos h]; rfl
      · rw [decide_eq_false h, if_neg h]; rfl
def laterB : Option Int → Option Int → Bool
  | _, none => false
  | none, some _ => true
  | some a, some b => decide (b < a)
theorem later_eq (a b : Option Int) : sem__law_is_later [optD a, optD b] = W.ret (false, .bl (laterB a b)) := by
  rw [lt_sem]
  refine run_ret _ _ _ _ [some (false, optD a), some (false, optD b)] (ret_eq (dr_eq ?_))
  rcases b with _ | b
  · rcases a with _ | a <;> exact andV_eq false false rfl fun z => nomatch z
  · rcases a with _ | a
    · exact andV_eq true true rfl fun _ => rfl
    · exact andV_eq true (decide (b < a)) rfl fun _ => rfl
theorem later_no {a b : Option Int} (h : leO a b) : laterB a b = false := by
  rcases b with _ | b
  · rcases a with _ | a <;> rfl
  · obtain ⟨x, rfl, hx⟩ := h b rfl
    exact decide_eq_false (by omega)
/-! ### the latest days below given ones that no meeting makes fall -/
theorem sinceF_closed {P : Pl} (h : P.Ok) (f : Dy) : Closed (waitOf P.ps) P.ms (daysM P f) := fun m hm => fold_closed (P.ms.mergeSort leM) f (sorted_days P.ms) (fun z hz => by
  have hz := (List.mergeSort_perm P.ms leM).mem_iff.mp hz
  exact ⟨(h.mets z hz).1, h.wait (h.mets z hz).2.1, h.wait (h.mets z hz).2.2⟩) m ((List.mergeSort_perm P.ms leM).mem_iff.mpr hm)
theorem sinceF_le (P : Pl) (f : Dy) : leF (daysM P f) f := fold_le _ f
theorem sinceF_top {P : Pl} (h : P.Ok) {f T : Dy} (hc : Closed (waitOf P.ps) P.ms T) (hT : leF T f) : leF T (daysM P f) := by
  have := rounds_above hc P.ms.length f hT
  rw [rounds_eq (fun m hm => ⟨(h.mets m hm).1, h.wait (h.mets m hm).2.1, h.wait (h.mets m hm).2.2⟩) P.ms.length (Nat.le_refl _) f] at this
  exact this
theorem sinceF_mono {P : Pl} (h : P.Ok) {f g : Dy} (hfg : leF f g) : leF (daysM P f) (daysM P g) := sinceF_top h (sinceF_closed h f) ((sinceF_le P f).trans hfg)
theorem least_l (a b : Option Int) : leO (leastM a b) a := fun y hy => by
  subst hy
  rcases b with _ | b
  · exact ⟨y, rfl, Int.le_refl _⟩
  · show ∃ x, (if y < b then some y else some b) = some x ∧ x ≤ y
    split
    · exact ⟨y, rfl, Int.le_refl _⟩
    · exact ⟨b, rfl, by omega⟩
theorem least_r (a b : Option Int) : leO (leastM a b) b := fun y hy => by
  subst hy
  rcases a with _ | a
  · exact ⟨y, rfl, Int.le_refl _⟩
  · show ∃ x, (if a < y then some a else some y) = some x ∧ x ≤ y
    split
    · exact ⟨a, rfl, by omega⟩
    · exact ⟨y, rfl, Int.le_refl _⟩
theorem least_or (a b : Option Int) : leastM a b = a ∨ leastM a b = b := by
  rcases a with _ | a
  · exact .inr rfl
  · rcases b with _ | b
    · exact .inl rfl
    · show (if a < b then some a else some b) = _ ∨ (if a < b then some a else some b) = _
      split
      · exact .inl rfl
      · exact .inr rfl
theorem least_of {a b c : Option Int} (h : leO c a) (k : leO c b) : leO c (leastM a b) := by
  rcases least_or a b with e | e <;> rw [e] <;> assumption
theorem both_eq {P : Pl} (h : P.Ok) (f g : Dy) : daysM P (fun n => leastM (f n) (g n)) = fun n => leastM (daysM P f n) (daysM P g n) := by
  funext n
  refine leO.antisymm ?_ ?_
  · exact least_of (sinceF_mono h (fun n => least_l (f n) (g n)) n) (sinceF_mono h (fun n => least_r (f n) (g n)) n)
  · refine sinceF_top h (T := fun n => leastM (daysM P f n) (daysM P g n)) (fun m hm q hq v hv hd => ?_) (fun n => ?_) n
    · rcases least_or (daysM P f q.1) (daysM P g q.1) with e | e
      · have := sinceF_closed h f m hm q hq v (e ▸ hv) hd
        exact (least_l _ _).trans this
      · have := sinceF_closed h g m hm q hq v (e ▸ hv) hd
        exact (least_r _ _).trans this
    · exact least_of ((least_l _ _).trans (sinceF_le P f n)) ((least_r _ _).trans (sinceF_le P g n))
/-- fewer meetings -/
theorem fewer_le {P R : Pl} (h : P.Ok) (k : R.Ok) (hp : R.ps = P.ps) (hm : ∀ m ∈ P.ms, m ∈ R.ms) (f : Dy) : leF (daysM R f) (daysM P f) := by
  refine sinceF_top h (fun m hm' q hq v hv hd => ?_) (sinceF_le R f)
  have := sinceF_closed k f m (hm m hm') q hq v hv
  rw [hp] at this
  exact this hd
theorem perm_days {P R : Pl} (h : P.Ok) (k : R.Ok) (hp : R.ps = P.ps) (hm : R.ms.Perm P.ms) (f : Dy) : daysM R f = daysM P f :=
  funext fun n => leO.antisymm (fewer_le h k hp (fun m z => hm.mem_iff.mpr z) f n) (fewer_le k h hp.symm (fun m z => hm.mem_iff.mp z) f n)
end FbL
end

section
set_option Elab.async false
set_option linter.all false
set_option maxRecDepth 100000
set_option maxHeartbeats 1000000
/-! The runner with equations: slots known, nothing held alone. -/
namespace Fb
open PySem PySem.Spec PyProof.Rows L2 TL FbL
theorem RK.v {n : Nat} {R : Ro} {l : List (Nat × D)} {i : Nat} {d : D} (h : RK n R l) (e : l.lookup i = some d) : mVar i R = W.ret d := by
  unfold mVar; rw [h.get _ _ e]; rfl
theorem lcR {α : Type} (enc : α → D) {n : Nat} {R : Ro} {l : List (Nat × D)} {vs : List Nat} {p : D → Option (List (Nat × D))} {c : Ro → W Ex Bool} {e : Ro → W Ex D} (bs : α → List (Nat × D)) (t : α → Bool) (f : α → D) (hR : RK n R l) : ∀ (xs : List α),
    (∀ x ∈ xs, Bnd n vs p (enc x) (bs x) ∧ ∀ R', RK n R' (bs x ++ l) → c R' = W.ret (t x) ∧ (t x = true → e R' = W.ret (f x))) → lcN p c e (wipeR R vs) (xs.map enc) = W.ret ((xs.filter t).map f)
  | [], _ => rfl
  | x :: xs, h => by
    obtain ⟨⟨h1, h2, h3, h4⟩, h5⟩ := h x List.mem_cons_self
    have ih := lcR enc (p := p) (c := c) (e := e) bs t f hR xs fun y hy => h y (List.mem_cons_of_mem _ hy)
    rw [List.map_cons]
    unfold lcN
    rw [h1]
    obtain ⟨hc, he⟩ := h5 _ (hR.block h2 h3 h4)
    show (W.bind (W.calm (c (setR (wipeR R vs) (bs x)))) fun b => if b = true then W.bind (W.calm (e (setR (wipeR R vs) (bs x)))) fun y => W.bind (lcN p c e (wipeR R vs) (xs.map enc)) fun ys => W.ret (y :: ys) else lcN p c e (wipeR R vs) (xs.map enc)) = _
    rw [hc, ih]
    show (if t x = true then W.bind (W.calm (e (setR (wipeR R vs) (bs x)))) fun y => W.bind (W.ret ((xs.filter t).map f)) fun ys => W.ret (y :: ys) else W.ret ((xs.filter t).map f)) = _
    cases ht : t x with
    | true => rw [if_pos rfl, he ht, List.filter_cons, if_pos ht]; rfl
    | false => rw [if_neg Bool.false_ne_true, List.filter_cons, if_neg (by rw [ht]; exact Bool.false_ne_true)]
theorem mlcR {α : Type} (enc : α → D) {n : Nat} {R : Ro} {l : List (Nat × D)} {m : Ro → W Ex (List D)} {vs : List Nat} {p : D → Option (List (Nat × D))} {c : Ro → W Ex Bool} {e : Ro → W Ex D} (bs : α → List (Nat × D)) (t : α → Bool) (f : α → D) (hR : RK n R l) (xs : List α) (hm : m R = W.ret (xs.map enc)) (hl : xs.length ≤ sizeLine)
    (h : ∀ x ∈ xs, Bnd n vs p (enc x) (bs x) ∧ ∀ R', RK n R' (bs x ++ l) → c R' = W.ret (t x) ∧ (t x = true → e R' = W.ret (f x))) : mLc m vs p c e R = W.ret (true, .lst ((xs.filter t).map f)) := by
  unfold mLc
  rw [hm]
  show szd (xs.map enc) (W.bind (lcN p c e (wipeR R vs) (xs.map enc)) fun ys => W.ret (true, D.lst ys)) = _
  rw [lcR enc bs t f hR xs h]
  unfold szd
  rw [if_pos (by rw [List.length_map]; exact hl)]; rfl
theorem mlcY {α : Type} (enc : α → D) {n : Nat} {R : Ro} {l : List (Nat × D)} {m : Ro → W Ex (List D)} {vs : List Nat} {p : D → Option (List (Nat × D))} {e : Ro → W Ex D} (bs : α → List (Nat × D)) (f : α → D) (hR : RK n R l) (xs : List α) (hm : m R = W.ret (xs.map enc)) (hl : xs.length ≤ sizeLine)
    (h : ∀ x ∈ xs, Bnd n vs p (enc x) (bs x) ∧ ∀ R', RK n R' (bs x ++ l) → e R' = W.ret (f x)) : mLc m vs p mYes e R = W.ret (true, .lst (xs.map f)) := by
  have := mlcR enc (c := mYes) bs (fun _ => true) f hR xs hm hl fun x hx => ⟨(h x hx).1, fun R' z => ⟨rfl, fun _ => (h x hx).2 R' z⟩⟩
  rw [this, List.filter_eq_self.mpr fun _ _ => rfl]
/-- a block that comes out empty -/
theorem mlcE {α : Type} (enc : α → D) {n : Nat} {R : Ro} {l : List (Nat × D)} {m : Ro → W Ex (List D)} {vs : List Nat} {p : D → Option (List (Nat × D))} {c : Ro → W Ex Bool} {e : Ro → W Ex D} (bs : α → List (Nat × D)) (hR : RK n R l) (xs : List α) (hm : m R = W.ret (xs.map enc)) (hl : xs.length ≤ sizeLine)
    (h : ∀ x ∈ xs, Bnd n vs p (enc x) (bs x) ∧ ∀ R', RK n R' (bs x ++ l) → c R' = W.ret false) : mLc m vs p c e R = W.ret (true, .lst []) := by
  have := mlcR enc (c := c) (e := e) bs (fun _ => false) (fun _ => D.non) hR xs hm hl fun x hx => ⟨(h x hx).1, fun R' z => ⟨(h x hx).2 R' z, fun y => nomatch y⟩⟩
  rw [this, List.filter_eq_nil_iff.mpr fun _ _ => Bool.false_ne_true]; rfl
/-- nothing known to be held alone -/
def AllF (l : List (Nat × Bool × D)) : Bool := l.all fun x => !x.2.1
theorem AllF.look {l : List (Nat × Bool × D)} (hf : AllF l = true) {i : Nat} {b : Bool} {d : D} (e : l.lookup i = some (b, d)) : b = false := by
  have := List.all_eq_true.mp hf _ (mem_look e)
  simpa using this
theorem frzK_to {fz : List Nat} : ∀ {l : List (Nat × Bool × D)} {i : Nat} {b : Bool} {d : D}, l.lookup i = some (b, d) → ∃ b', (frzK fz l).lookup i = some (b', d)
  | [], _, _, _, h => by simp at h
  | (j, b', d') :: r, i, b, d, h => by
    rw [List.lookup_cons] at h
    show ∃ b'', List.lookup i ((j, (bif fz.contains j then false else b'), d') :: frzK fz r) = some (b'', d)
    rw [List.lookup_cons]
    cases e : (i == j) with
    | true => rw [e] at h; exact ⟨_, by rw [show d' = d from (congrArg Prod.snd (Option.some.inj h))]⟩
    | false => rw [e] at h; exact frzK_to h
theorem EK.frzF {n : Nat} {ρ : En} {l : List (Nat × Bool × D)} (h : EK n ρ l) (hf : AllF l = true) (fz : List Nat) : EK n (Fb.frz fz ρ) l := ⟨(h.frz fz).len, fun i b d e => by
  have hb := AllF.look hf e
  obtain ⟨b', e'⟩ := frzK_to (fz := fz) e
  obtain ⟨b2, e2, _⟩ := (h.frz fz).get i b' d e'
  exact ⟨b2, e2, fun z => by rw [hb] at z; cases z⟩⟩
theorem EK.asgF {n : Nat} {ρ : En} {l : List (Nat × Bool × D)} (h : EK n ρ l) (hf : AllF l = true) (fz : List Nat) {i : Nat} (hi : i < n) (r : Bool × D) : EK n (Fb.asg fz i r ρ) ((i, false, r.2) :: l) := ⟨(h.asg fz hi r).len, fun j b d e => by
  rw [List.lookup_cons] at e
  cases c : (j == i) with
  | true =>
    rw [c] at e
    have e : (false, r.2) = (b, d) := Option.some.inj e
    obtain ⟨b2, e2, _⟩ := (h.asg fz hi r).get j r.1 r.2 (by rw [List.lookup_cons, c])
    injection e with e1 e3
    subst e1 e3
    exact ⟨b2, e2, fun z => by cases z⟩
  | false =>
    rw [c] at e
    have hb := AllF.look hf e
    obtain ⟨b', e'⟩ := frzK_to (fz := fz) e
    obtain ⟨b2, e2, _⟩ := (h.asg fz hi r).get j b' d (by rw [List.lookup_cons, c]; exact e')
    exact ⟨b2, e2, fun z => by rw [hb] at z; cases z⟩⟩
theorem EK.tl {n : Nat} {ρ : En} {l : List (Nat × Bool × D)} {i : Nat} {p : Bool × D} (h : EK n ρ ((i, p) :: l)) (hl : l.lookup i = none) : EK n ρ l := ⟨h.len, fun j b d e => h.get j b d (by
  rw [List.lookup_cons]
  cases c : (j == i) with
  | true => rw [show j = i by simpa using c, hl] at e; cases e
  | false => exact e)⟩
section
variable {n : Nat} {ρ : En} {l : List (Nat × Bool × D)} {Q : Fl × En → Prop} {E : Ex × En → Prop} {k : En → WS}
theorem q_setF {fz : List Nat} {i : Nat} {r : Bool × D} {Q : En → Prop} (h : EK n ρ l) (hf : AllF l = true) (hi : i < n) (q : ∀ ρ', EK n ρ' ((i, false, r.2) :: l) → Q ρ') : SetK fz i r ρ Q := q _ (h.asgF hf fz hi r)
/-- x = m, all told -/
theorem s_set {fz : List Nat} {i : Nat} {m : Ro → W Ex (Bool × D)} {b : Bool} {d : D} (h : EK n ρ l) (hf : AllF l = true) (hi : i < n) (hm : ∀ R, RK n R (seeK fz l) → m R = W.ret (b, d)) (q : ∀ ρ', EK n ρ' ((i, false, d) :: l) → k ρ' Q E) : mSeq (mSet fz i m) k ρ Q E :=
  r_seq (r_set h fun R hR => r_eq (hm R hR) (q_setF h hf hi q))
/-- x = m, something drawn -/
theorem s_setQ {fz : List Nat} {i : Nat} {m : Ro → W Ex (Bool × D)} (h : EK n ρ l) (hf : AllF l = true) (hi : i < n) (hm : ∀ R, RK n R (seeK fz l) → m R (fun r => ∀ ρ', EK n ρ' ((i, false, r.2) :: l) → k ρ' Q E) (fun x => E (x, ρ))) (mn : ∀ R, W.Mono (m R)) : mSeq (mSet fz i m) k ρ Q E :=
  r_seq (r_set h fun R hR => (mn R).run (fun r hr => q_setF h hf hi hr) (fun _ z => z) (hm R hR))
/-- if c: .. that is not so -/
theorem s_if {m : En → WS} {c : Ro → W Ex Bool} (h : EK n ρ l) (hc : ∀ R, RK n R (roK l) → c R = W.ret false) (q : k ρ Q E) : mSeq (mIf c m mSkip) k ρ Q E :=
  r_seq (r_if h fun R hR => r_eq (hc R hR) (r_f (r_skip (r_nx q))))
theorem s_ifL {m : En → WS} {c : Ro → W Ex Bool} (h : EK n ρ l) (hc : ∀ R, RK n R (roK l) → c R = W.ret false) (q : Q (.nx, ρ)) : mIf c m mSkip ρ Q E :=
  r_if h fun R hR => r_eq (hc R hR) (r_f (r_skip q))
theorem frzF_setE {fz : List Nat} (h : EK n ρ l) (hf : AllF l = true) : EK n (Fb.frz fz ρ) l := h.frzF hf fz
/-- a loop whose turns keep what is known -/
theorem q_forL {α : Type} (enc : α → D) {fz : List Nat} {i : Nat} {b : En → WS} (xs : List α) (h : EK n ρ l) (hf : AllF l = true) (hi : i < n)
    (hb : ∀ x ∈ xs, ∀ ρ', EK n ρ' ((i, false, enc x) :: l) → ∀ Q' : Fl × En → Prop, (∀ ρ'', EK n ρ'' l → Q' (.nx, ρ'')) → b ρ' Q' E) (q : ∀ ρ', EK n ρ' l → Q (.nx, ρ')) : ForK fz (pName i) b (xs.map enc) ρ Q E := by
  refine r_forK enc (fun x => [(i, enc x)]) (fun _ _ (_ : Unit) => True) (fun _ => l) () h (fun ρ' h' => ?_) trivial (fun dn x rs _ _ e => ⟨rfl, ?_, fun ρ' h' Q' hq => ?_⟩) fun _ _ ρ' h' => q ρ' h'
  · exact ⟨h'.len, fun j b d e => by
      have hb := AllF.look hf e
      obtain ⟨b', e'⟩ := frzK_to (fz := fz) e
      obtain ⟨b2, e2, _⟩ := h'.get j b' d e'
      exact ⟨b2, e2, fun z => by rw [hb] at z; cases z⟩⟩
  · show (decide (i < n) && true) = true
    rw [decide_eq_true hi]; rfl
  · exact hb x (by rw [← e]; simp) ρ' h' Q' fun ρ'' h'' => hq (.nx, ρ'') ⟨(), trivial, h''⟩
theorem s_forL {α : Type} (enc : α → D) {fz : List Nat} {m : Ro → W Ex (List D)} {i : Nat} {b : En → WS} (xs : List α) (h : EK n ρ l) (hf : AllF l = true) (hi : i < n) (hm : ∀ R, RK n R (seeK fz l) → m R = W.ret (xs.map enc))
    (hb : ∀ x ∈ xs, ∀ ρ', EK n ρ' ((i, false, enc x) :: l) → ∀ Q' : Fl × En → Prop, (∀ ρ'', EK n ρ'' l → Q' (.nx, ρ'')) → b ρ' Q' E) (q : ∀ ρ', EK n ρ' l → Q (.nx, ρ')) : mFor fz m (pName i) b ρ Q E :=
  r_for h fun R hR => r_eq (hm R hR) (q_forL enc xs h hf hi hb q)
end
theorem zip_fg {α : Type} (f g : α → D) : ∀ l : List α, zipD (l.map f) (l.map g) = l.map fun n => .tup [f n, g n]
  | [] => rfl
  | a :: l => congrArg (D.tup [f a, g a] :: ·) (zip_fg f g l)
end Fb
end

section
set_option Elab.async false
set_option linter.all false
set_option maxRecDepth 100000
set_option maxHeartbeats 1000000
namespace FbL
open PySem PySem.Spec PyProof.Rows L2 Fb TL
theorem star_eq {m : Ro → W Ex D} {n : Ro → W Ex (List D)} {ρ : Ro} (t : Bool) {l ds : List D} (hm : m ρ = W.ret (wrapD t l)) (hn : n ρ = W.ret ds) : mStar m n ρ = W.ret (l ++ ds) := by
  show (W.bind (m ρ) fun d => W.bind (asSeq d) fun xs => W.bind (n ρ) fun ds => W.ret (xs ++ ds)) = _
  rw [hm, hn]
  cases t <;> rfl
theorem further_eq (P : Pl) (t : Bool) (ms : List Met) (h : Pl.Ok ⟨P.ps, P.ms ++ ms⟩) : sem_Plan_further [plD P, wrapD t (ms.map metD)] = W.ret (false, plD ⟨P.ps, P.ms ++ ms⟩) := by
  refine run_ret _ _ _ _ [some (false, plD P), some (false, wrapD t (ms.map metD))] ?_
  refine (guardN (not_eq true (test_eq true (de_eq (b := false) (call_eq (ds := [wrapD t (ms.map metD)]) rfl rfl (is_seq_wrap t _)))))).trans (ret_eq (make_eq ⟨P.ps, P.ms ++ ms⟩ h true false ?_))
  have hl : (P.ms.map metD ++ (ms.map metD ++ [])).length ≤ sizeLine := by
    rw [List.append_nil, ← List.map_append, List.length_map]; exact h.lm
  refine Eq.trans (cons_eq (d := .tup (P.ps.map perD)) rfl (cons_eq (de_eq (lst_eq (star_eq true (l := P.ms.map metD) rfl (star_eq t (l := ms.map metD) rfl rfl)) hl)) rfl)) ?_
  rw [List.append_nil, ← List.map_append]
  rfl
theorem meth_further (P : Pl) (t : Bool) (ms : List Met) (h : Pl.Ok ⟨P.ps, P.ms ++ ms⟩) {m : Ro → W Ex D} {a : Ro → W Ex (List D)} {ρ : Ro} (hm : m ρ = W.ret (plD P)) (ha : a ρ = W.ret [wrapD t (ms.map metD)]) : mMeth "Plan" "further" 2 sem_Plan_further [] m a ρ = W.ret (false, plD ⟨P.ps, P.ms ++ ms⟩) := by
  show (W.bind (m ρ) fun d => W.got (asIns "Plan" d) fun fs => if fs.lookup ("further" : Str) = none then W.bind (a ρ) fun ds => if (d :: (ds ++ [])).length = 2 then sem_Plan_further (d :: (ds ++ [])) else W.fail else W.fail) = _
  rw [hm]
  show (if (plF P).lookup ("further" : Str) = none then W.bind (a ρ) fun ds => if (plD P :: (ds ++ [])).length = 2 then sem_Plan_further (plD P :: (ds ++ [])) else W.fail else W.fail) = _
  rw [if_pos (show (plF P).lookup ("further" : Str) = none from rfl), ha]
  show sem_Plan_further [plD P, wrapD t (ms.map metD)] = _
  exact further_eq P t ms h
theorem put_same {h : Str → D} {acc : List Str} {n : Str} (hn : n ∈ acc) : putD (acc.map fun n => ((Sum.inr n : Key), h n)) (.inr n) (h n) = acc.map fun n => ((Sum.inr n : Key), h n) := by
  unfold putD
  have : ((acc.map fun n => ((Sum.inr n : Key), h n)).any fun kv => decide (kv.1 = (Sum.inr n : Key))) = true := List.any_eq_true.mpr ⟨_, List.mem_map_of_mem hn, decide_eq_true rfl⟩
  rw [if_pos this, List.map_map]
  refine List.map_congr_left fun m _ => ?_
  show (if (Sum.inr m : Key) = Sum.inr n then ((Sum.inr m : Key), h n) else (Sum.inr m, h m)) = (Sum.inr m, h m)
  by_cases e : m = n
  · subst e; rw [if_pos rfl]
  · rw [if_neg fun z => e (Sum.inr.inj z)]
theorem put_more {h : Str → D} {acc : List Str} {n : Str} (hn : n ∉ acc) : putD (acc.map fun n => ((Sum.inr n : Key), h n)) (.inr n) (h n) = (acc ++ [n]).map fun n => ((Sum.inr n : Key), h n) := by
  unfold putD
  have : ((acc.map fun n => ((Sum.inr n : Key), h n)).any fun kv => decide (kv.1 = (Sum.inr n : Key))) = false := by
    rw [List.any_eq_false]
    intro kv hkv
    obtain ⟨m, hm, rfl⟩ := List.mem_map.mp hkv
    rw [decide_eq_true_eq]
    intro z
    exact hn (Sum.inr.inj z ▸ hm)
  rw [this, List.map_append]; rfl
theorem merge_fun (h : Str → D) : ∀ (l acc : List Str), acc.Nodup → ∃ l' : List Str, l'.Nodup ∧ (∀ n, n ∈ l' ↔ n ∈ acc ∨ n ∈ l) ∧ l'.length ≤ acc.length + l.length ∧ mergeD (acc.map fun n => ((Sum.inr n : Key), h n)) (l.map fun n => (Sum.inr n, h n)) = l'.map fun n => (Sum.inr n, h n)
  | [], acc, nd => ⟨acc, nd, fun n => by simp, by simp, rfl⟩
  | n :: l, acc, nd => by
    by_cases hn : n ∈ acc
    · obtain ⟨l', h1, h2, h3, h4⟩ := merge_fun h l acc nd
      refine ⟨l', h1, fun m => ?_, by rw [List.length_cons]; omega, ?_⟩
      · rw [h2, List.mem_cons]
        constructor
        · exact fun z => z.elim .inl fun y => .inr (.inr y)
        · exact fun z => z.elim .inl fun y => y.elim (fun e => .inl (e ▸ hn)) .inr
      · show mergeD (putD (acc.map fun n => ((Sum.inr n : Key), h n)) (.inr n) (h n)) _ = _
        rw [put_same hn, h4]
    · obtain ⟨l', h1, h2, h3, h4⟩ := merge_fun h l (acc ++ [n]) (List.nodup_append.mpr ⟨nd, by simp, fun x hx y hy e => by
        cases List.mem_singleton.mp hy
        exact hn (e ▸ hx)⟩)
      refine ⟨l', h1, fun m => ?_, by rw [List.length_append] at h3; rw [List.length_cons]; simp at h3; omega, ?_⟩
      · rw [h2, List.mem_cons, List.mem_append, List.mem_singleton]
        constructor
        · exact fun z => z.elim (fun y => y.elim .inl fun e => .inr (.inl e)) fun y => .inr (.inr y)
        · exact fun z => z.elim (fun y => .inl (.inl y)) fun y => y.elim (fun e => .inl (.inr e)) .inr
      · show mergeD (putD (acc.map fun n => ((Sum.inr n : Key), h n)) (.inr n) (h n)) _ = _
        rw [put_more hn, h4]
theorem get1_eq {i : Nat} {ws : Wl} {k : Ro → W Ex D} {R : Ro} {n : Str} (h : mVar i R = W.ret (wD ws)) (hk : k R = W.ret (.str n)) : mGet1 (mVar i) k R = W.ret (optD (fstF ws n)) := by
  unfold mGet1
  rw [h]
  show (W.bind (k R) fun y => W.got (keyOf y) fun k => W.ret ((lookK (ws.map fstK) k).getD D.non)) = _
  rw [hk]
  show W.ret ((lookK (ws.map fstK) (.inr n)).getD D.non) = _
  rw [look_fst]
theorem fstF_none {ws : Wl} {n : Str} (hn : n ∉ ws.map (·.1)) : fstF ws n = none := by
  unfold fstF
  rw [List.find?_eq_none.mpr fun w hw => by
    simp only [decide_eq_true_eq]
    exact fun e => hn (by rw [← e]; exact List.mem_map_of_mem hw)]
  rfl
theorem fstF_some {ws : Wl} (nd : (ws.map (·.1)).Nodup) {w : Str × Int} (hw : w ∈ ws) : fstF ws w.1 = some w.2 := by
  induction ws with
  | nil => cases hw
  | cons x l ih =>
    rw [List.map_cons, List.nodup_cons] at nd
    unfold fstF
    rw [List.find?_cons]
    rcases List.mem_cons.mp hw with rfl | hw
    · rw [decide_eq_true rfl]; rfl
    · have : x.1 ≠ w.1 := fun e => nd.1 (by rw [e]; exact List.mem_map_of_mem hw)
      rw [decide_eq_false this]
      exact ih nd.2 hw
theorem both_dict {P : Pl} {ws1 ws2 : Wl} (h1 : WOk P ws1) (h2 : WOk P ws2) (l1 : ws1.length ≤ 100) (l2 : ws2.length ≤ 100) {R : Ro} (r7 : mVar 7 R = W.ret (wD ws1)) (r8 : mVar 8 R = W.ret (wD ws2)) (rl : 19 < R.length) :
    ∃ ws, (mBlt (gDictP) (mCons (mDe (mLc (mWalk (mDe (mOpR gAdd (mDe (mBlt (gList) (mCons (mVar 7) mNil))) (mDe (mBlt (gList) (mCons (mVar 8) mNil)))))) [19] (pName 19) mYes (mTup (mCons (mVar 19) (mCons (mDe (mCall 2 sem__law_least [] (mCons (mGet1 (mVar 7) (mVar 19)) (mCons (mGet1 (mVar 8) (mVar 19)) mNil)))) mNil))))) mNil)) R = W.ret (true, wD ws) ∧ WOk P ws ∧ fstF ws = fun n => leastM (fstF ws1 n) (fstF ws2 n) := by
  obtain ⟨l', nd, hm, hll, hmg⟩ := merge_fun (fun n => optD (leastM (fstF ws1 n) (fstF ws2 n))) (ws1.map (·.1) ++ ws2.map (·.1)) [] List.nodup_nil
  have z := sizeLine_ge
  have hin : ∀ n ∈ l', ∃ v, leastM (fstF ws1 n) (fstF ws2 n) = some v ∧ ((n, v) ∈ ws1 ∨ (n, v) ∈ ws2) := fun n hn => by
    have ne : leastM (fstF ws1 n) (fstF ws2 n) ≠ none := by
      rcases (hm n).mp hn with z | z
      · cases z
      · rcases List.mem_append.mp z with z | z
        · obtain ⟨w, hw, rfl⟩ := List.mem_map.mp z
          rw [fstF_some h1.nd hw]
          generalize fstF ws2 w.1 = o
          intro e
          rcases o with _ | b
          · cases e
          · have e : (if w.2 < b then some w.2 else some b) = none := e
            split at e <;> cases e
        · obtain ⟨w, hw, rfl⟩ := List.mem_map.mp z
          rw [fstF_some h2.nd hw]
          generalize fstF ws1 w.1 = o
          intro e
          rcases o with _ | b
          · cases e
          · have e : (if b < w.2 then some b else some w.2) = none := e
            split at e <;> cases e
    rcases e : leastM (fstF ws1 n) (fstF ws2 n) with _ | v
    · exact absurd e ne
    · refine ⟨v, rfl, ?_⟩
      rcases least_or (fstF ws1 n) (fstF ws2 n) with q | q
      · exact .inl (fstF_mem (q.symm.trans e))
      · exact .inr (fstF_mem (q.symm.trans e))
  let val : Str → Int := fun n => (leastM (fstF ws1 n) (fstF ws2 n)).getD 0
  have hval : ∀ n ∈ l', leastM (fstF ws1 n) (fstF ws2 n) = some (val n) := fun n hn => by
    obtain ⟨v, e, _⟩ := hin n hn
    show _ = some ((leastM (fstF ws1 n) (fstF ws2 n)).getD 0)
    rw [e]; rfl
  let ws : Wl := l'.map fun n => (n, val n)
  have keys : ws.map (·.1) = l' := by
    show (l'.map fun n => (n, val n)).map (·.1) = l'
    rw [List.map_map]
    exact List.map_id l'
  have hws : l'.map (fun n => ((Sum.inr n : Key), optD (leastM (fstF ws1 n) (fstF ws2 n)))) = ws.map fstK := by
    show _ = (l'.map fun n => (n, val n)).map fstK
    rw [List.map_map]
    refine List.map_congr_left fun n hn => ?_
    rw [hval n hn]; rfl
  have wok : WOk P ws := by
    refine ⟨?_, fun w hw => ?_, by rw [keys]; exact nd⟩
    · show (l'.map _).length ≤ _
      rw [List.length_map]
      rw [List.length_append, List.length_map, List.length_map] at hll
      simp at hll
      omega
    · obtain ⟨n, hn, rfl⟩ := List.mem_map.mp hw
      obtain ⟨v, e, hv⟩ := hin n hn
      have ev : val n = v := by have := hval n hn; rw [e] at this; exact (Option.some.inj this).symm
      show fstOk P.ps (n, val n)
      rw [ev]
      exact hv.elim (h1.ok _) (h2.ok _)
  refine ⟨ws, ?_, wok, funext fun n => ?_⟩
  · refine blt_eq (ds := [.lst ((ws1.map (·.1) ++ ws2.map (·.1)).map fun n => .tup [.str n, optD (leastM (fstF ws1 n) (fstF ws2 n))])]) (cons_eq (de_eq (b := true) (lc_eq (xs := (ws1.map (·.1) ++ ws2.map (·.1)).map D.str) (walk_eq (d := .lst ((ws1.map (·.1) ++ ws2.map (·.1)).map D.str)) (de_eq (b := true) (opR_eq (a := .lst ((ws1.map (·.1)).map D.str)) (b := .lst ((ws2.map (·.1)).map D.str)) (de_eq (b := true) (blt_eq (ds := [wD ws1]) (cons_eq r7 rfl) ?_)) (de_eq (b := true) (blt_eq (ds := [wD ws2]) (cons_eq r8 rfl) ?_)) ?_)) rfl) ?_ ?_)) rfl) ?_
    · show W.ret (true, D.lst ((ws1.map fstK).map fun kv => keyD kv.1)) = _
      rw [List.map_map, List.map_map]; rfl
    · show W.ret (true, D.lst ((ws2.map fstK).map fun kv => keyD kv.1)) = _
      rw [List.map_map, List.map_map]; rfl
    · rw [List.map_append]
      exact add_lst (by rw [List.length_map, List.length_map, List.length_map, List.length_map]; omega)
    · rw [List.length_map, List.length_append, List.length_map, List.length_map]; omega
    · rw [lcN_all (fun d => match d with | .str n => .tup [.str n, optD (leastM (fstF ws1 n) (fstF ws2 n))] | _ => .non) fun d hd => by
        obtain ⟨n, hn, rfl⟩ := List.mem_map.mp hd
        have v19 : mVar 19 (setR (wipeR R [19]) [(19, .str n)]) = W.ret (.str n) := lc_var rl _
        have v7 : mVar 7 (setR (wipeR R [19]) [(19, .str n)]) = W.ret (wD ws1) := (lc_else (by decide) _).trans r7
        have v8 : mVar 8 (setR (wipeR R [19]) [(19, .str n)]) = W.ret (wD ws2) := (lc_else (by decide) _).trans r8
        exact ⟨[(19, .str n)], rfl, tup_eq (cons_eq v19 (cons_eq (de_eq (b := false) (call_eq (ds := [optD (fstF ws1 n), optD (fstF ws2 n)]) (cons_eq (get1_eq v7 v19) (cons_eq (get1_eq v8 v19) rfl)) rfl (least_eq _ _))) rfl)) (small (by show 2 ≤ 1000; decide))⟩]
      rw [List.map_map]; rfl
    · show (W.got (pairsOf _) fun kvs => W.ret (true, D.dic (mergeD [] kvs))) = _
      rw [pairs_of (fun n : Str => n) (fun n => optD (leastM (fstF ws1 n) (fstF ws2 n)))]
      show W.ret (true, D.dic (mergeD [] _)) = _
      have hmg' : mergeD [] ((ws1.map (·.1) ++ ws2.map (·.1)).map fun n => ((Sum.inr n : Key), optD (leastM (fstF ws1 n) (fstF ws2 n)))) = _ := hmg
      rw [hmg', hws]; rfl
  · by_cases hn : n ∈ l'
    · have := fstF_some wok.nd (w := (n, val n)) (List.mem_map.mpr ⟨n, hn, rfl⟩)
      rw [hval n hn]; exact this
    · rw [fstF_none (by rw [keys]; exact hn)]
      have n1 : n ∉ ws1.map (·.1) := fun z => hn ((hm n).mpr (.inr (List.mem_append_left _ z)))
      have n2 : n ∉ ws2.map (·.1) := fun z => hn ((hm n).mpr (.inr (List.mem_append_right _ z)))
      rw [fstF_none n1, fstF_none n2]; rfl
/-! ### first ones who begin later -/
def spanM (P : Pl) (n : Str) : Int := match perOf P.ps n with
  | some p => match p.sp with
    | some q => q.2
    | none => 0
  | none => 0
def slowW (P : Pl) (w : Str × Int) : Str × Int := (w.1, if w.2 + 1 < spanM P w.1 then w.2 + 1 else spanM P w.1)
theorem perOf_of {P : Pl} (nd : P.names.Nodup) {p : Per} (hp : p ∈ P.ps) : perOf P.ps p.nm = some p := by
  obtain ⟨q, e, hq, en⟩ := perOf_mem (ps := P.ps) (n := p.nm) (List.mem_map_of_mem hp)
  have key : ∀ (l : List Per), (l.map (·.nm)).Nodup → ∀ a ∈ l, ∀ b ∈ l, a.nm = b.nm → a = b := by
    intro l
    induction l with
    | nil => intro _ a ha; cases ha
    | cons x l ih =>
      intro hn a ha b hb e
      rw [List.map_cons, List.nodup_cons] at hn
      rcases List.mem_cons.mp ha with e1 | ha1
      · rcases List.mem_cons.mp hb with e2 | hb1
        · rw [e1, e2]
        · exact absurd (by rw [← e1, e]; exact List.mem_map_of_mem hb1) hn.1
      · rcases List.mem_cons.mp hb with e2 | hb1
        · exact absurd (by rw [← e2, ← e]; exact List.mem_map_of_mem ha1) hn.1
        · exact ih hn.2 a ha1 b hb1 e
  rw [e, key P.ps nd q hq p hp en]
theorem span_of {P : Pl} (nd : P.names.Nodup) {w : Str × Int} (h : fstOk P.ps w) : ∃ lo hi, lookK (spanD P.ps) (.inr w.1) = some (.tup [.int lo, .int hi]) ∧ spanM P w.1 = hi ∧ 0 ≤ lo ∧ lo ≤ w.2 ∧ w.2 ≤ hi ∧ ∃ p ∈ P.ps, p.nm = w.1 ∧ p.sp = some (lo, hi) := by
  obtain ⟨p, hp, e, lo, hi, es, h0, h1, h2⟩ := h
  refine ⟨lo, hi, ?_, ?_, h0, h1, h2, p, hp, e, es⟩
  · rw [← e]; exact look_span nd hp es
  · unfold spanM
    rw [← e, perOf_of nd hp]
    show (match p.sp with | some q => q.2 | none => 0) = hi
    rw [es]
theorem slow_ok {P : Pl} (nd : P.names.Nodup) {ws : Wl} (h : WOk P ws) : WOk P (ws.map (slowW P)) := by
  refine ⟨by rw [List.length_map]; exact h.len, fun w hw => ?_, by rw [List.map_map]; exact h.nd⟩
  obtain ⟨v, hv, rfl⟩ := List.mem_map.mp hw
  obtain ⟨lo, hi, _, e, h0, h1, h2, p, hp, en, es⟩ := span_of nd (h.ok v hv)
  refine ⟨p, hp, en, lo, hi, es, h0, ?_, ?_⟩
  · show lo ≤ if v.2 + 1 < spanM P v.1 then v.2 + 1 else spanM P v.1
    rw [e]; split <;> omega
  · show (if v.2 + 1 < spanM P v.1 then v.2 + 1 else spanM P v.1) ≤ hi
    rw [e]; split <;> omega
theorem slow_later {P : Pl} (nd : P.names.Nodup) {ws : Wl} (h : WOk P ws) : leF (fstF ws) (fstF (ws.map (slowW P))) := fun n y hy => by
  have hm := fstF_mem hy
  obtain ⟨v, hv, e⟩ := List.mem_map.mp hm
  have e1 : v.1 = n := congrArg Prod.fst e
  have e2 : (if v.2 + 1 < spanM P v.1 then v.2 + 1 else spanM P v.1) = y := congrArg Prod.snd e
  obtain ⟨lo, hi, _, es, h0, h1, h2, _⟩ := span_of nd (h.ok v hv)
  refine ⟨v.2, by rw [← e1]; exact fstF_some h.nd hv, ?_⟩
  rw [← e2, es]
  split <;> omega
/-! ### who is able goes on being so -/
theorem lot_on {g : Dy} {q : Per → Int} {d : Int} {p : Per} (h : inLot g q d p = true) : inLot g q (d + 1) p = true := by
  unfold inLot at h ⊢
  rcases e : g p.nm with _ | v
  · rw [e] at h; cases h
  · rw [e] at h
    have := of_decide_eq_true h
    exact decide_eq_true (by omega)
end FbL
end

section
set_option Elab.async false
set_option linter.all false
set_option maxRecDepth 100000
set_option maxHeartbeats 1000000
namespace FbL
open PySem PySem.Spec PyProof.Rows L2 Fb TL
def kw0B0 : En → WS := (mSet [0, 1] 2 (mCall 2 sem__law_seed [] (mCons (mVar 0) (mCons (mVar 1) mNil))))
def kw0B1B0 : En → WS := (mSet [2] 4 (mCall 4 sem__law_drawn [] (mCons (mVar 2) (mCons (mC (.int 5)) (mCons (mC (.int 4)) (mCons (mC (.int 12)) mNil))))))
def kw0B1B1 : En → WS := (mPar [(5, [4], (mCall 1 sem__law_made [] (mCons (mVar 4) mNil))), (6, [4], (mCall 1 sem__law_worlds [] (mCons (mVar 4) mNil)))])
def kw0B1B2 : En → WS := (mPar [(7, [2, 6], (mCall 2 sem__law_one_of [] (mCons (mVar 2) (mCons (mVar 6) mNil)))), (8, [2, 6], (mCall 2 sem__law_one_of [] (mCons (mVar 2) (mCons (mVar 6) mNil))))])
def kw0B1B3 : En → WS := (mSet [7, 8] 9 (mBlt (gDictP) (mCons (mDe (mLc (mWalk (mDe (mOpR gAdd (mDe (mBlt (gList) (mCons (mVar 7) mNil))) (mDe (mBlt (gList) (mCons (mVar 8) mNil)))))) [19] (pName 19) mYes (mTup (mCons (mVar 19) (mCons (mDe (mCall 2 sem__law_least [] (mCons (mGet1 (mVar 7) (mVar 19)) (mCons (mGet1 (mVar 8) (mVar 19)) mNil)))) mNil))))) mNil)))
def kw0B1B4 : En → WS := (mSet [7] 10 (mListItems (mVar 7)))
def kw0B1B5 : En → WS := (mPar [(11, [5, 10], (mCall 2 sem_since [] (mCons (mVar 5) (mCons (mVar 10) mNil)))), (12, [5, 8], (mCall 2 sem_since [] (mCons (mVar 5) (mCons (mDe (mListItems (mVar 8))) mNil))))])
def kw0B1B6 : En → WS := (mIf (mTest (mOp (gEq true) (mDe (mCall 2 sem_since [] (mCons (mVar 5) (mCons (mDe (mListItems (mVar 9))) mNil)))) (mDe (mBlt (gTuple) (mCons (mDe (mLc (mZip (mCons (mVar 11) (mCons (mVar 12) mNil))) [20, 21] (pTup 2 (pCons (pName 20) (pCons (pName 21) pNil))) mYes (mDe (mCall 2 sem__law_least [] (mCons (mVar 20) (mCons (mVar 21) mNil)))))) mNil))))) (mRet (mDr (mC (.bl false)))) mSkip)
def kw0B1B7 : En → WS := (mSet [4] 13 (mBlt (gDictP) (mCons (mDe (mLc (mWalk (mOp gIx (mVar 4) (mC (.int 0)))) [19, 22, 23, 24] (pTup 4 (pCons (pName 19) (pCons (pName 22) (pCons (pName 23) (pCons (pName 24) pNil))))) (mTest (mOp (gIs true) (mVar 24) (mC .non))) (mTup (mCons (mVar 19) (mCons (mVar 24) mNil))))) mNil)))
def kw0B1B8 : En → WS := (mSet [16, 7, 13] 14 (mBlt (gDictP) (mCons (mDe (mLc (mItemsV 7) [19, 16] (pTup 2 (pCons (pName 19) (pCons (pName 16) pNil))) mYes (mTup (mCons (mVar 19) (mCons (mDe (mBlt (gMM false) (mCons (mDe (mBlt (g1 intD) (mCons (mOp gIx (mOp gIx (mVar 13) (mVar 19)) (mC (.int 1))) mNil))) (mCons (mDe (mBlt (g1 intD) (mCons (mDe (mOpR gAdd (mVar 16) (mC (.int 1)))) mNil))) mNil)))) mNil))))) mNil)))
def kw0B1B9 : En → WS := (mSet [5, 14] 15 (mCall 2 sem_since [] (mCons (mVar 5) (mCons (mDe (mListItems (mVar 14))) mNil))))
def kw0B1B10 : En → WS := (mIf (mTest (mOp (gEq true) (mDe (mLc (mZip (mCons (mVar 15) (mCons (mVar 11) mNil))) [20, 21] (pTup 2 (pCons (pName 20) (pCons (pName 21) pNil))) (mTest (mDe (mCall 2 sem__law_is_later [] (mCons (mVar 21) (mCons (mVar 20) mNil))))) (mC (.int 1)))) (mDe (mLst mNil)))) (mRet (mDr (mC (.bl false)))) mSkip)
def kw0B1B11B0 : En → WS := (mIf (mTest (mOp (gEq true) (mDe (mLc (mWalk (mDe (mCall 3 sem_shows [] (mCons (mVar 5) (mCons (mVar 10) (mCons (mVar 16) mNil)))))) [19] (pName 19) (mTest (mOp (gIn true) (mVar 19) (mDe (mCall 3 sem_shows [] (mCons (mVar 5) (mCons (mVar 10) (mCons (mDe (mOpR gAdd (mVar 16) (mC (.int 1)))) mNil))))))) (mVar 19))) (mDe (mLst mNil)))) (mRet (mDr (mC (.bl false)))) mSkip)
def kw0B1B11B1 : En → WS := (mIf (mTest (mOp (gEq true) (mDe (mLc (mWalk (mDe (mCall 3 sem_able [] (mCons (mVar 5) (mCons (mVar 10) (mCons (mVar 16) mNil)))))) [19] (pName 19) (mTest (mOp (gIn true) (mVar 19) (mDe (mCall 3 sem_able [] (mCons (mVar 5) (mCons (mVar 10) (mCons (mDe (mOpR gAdd (mVar 16) (mC (.int 1)))) mNil))))))) (mVar 19))) (mDe (mLst mNil)))) (mRet (mDr (mC (.bl false)))) mSkip)
def kw0B1B11B : En → WS := mSeq kw0B1B11B0 kw0B1B11B1
def kw0B1B11 : En → WS := (mFor [] (mRng1 (mCons (mC (.int 14)) mNil)) (pName 16) kw0B1B11B)
def kw0B1B12 : En → WS := (mSet [2, 4] 17 (mSlice (mDe (mCall 2 sem__law_mixed [] (mCons (mVar 2) (mCons (mDe (mLc (mWalk (mOp gIx (mVar 4) (mC (.int 0)))) [19] (pName 19) mYes (mOp gIx (mVar 19) (mC (.int 0))))) mNil)))) mNoPart (mPart (mC (.int 2)))))
def kw0B1B13 : En → WS := (mSet [5, 2, 17] 18 (mMeth "Plan" "further" 2 sem_Plan_further [] (mVar 5) (mCons (mDe (mLst (mCons (mTup (mCons (mDe (mCall 2 sem__law_choose [] (mCons (mVar 2) (mCons (mC (.int 12)) mNil)))) (mCons (mOp gIx (mVar 17) (mC (.int 0))) (mCons (mOp gIx (mVar 17) (mC (.int 1))) mNil)))) mNil))) mNil)))
def kw0B1B14 : En → WS := (mIf (mTest (mOp (gEq true) (mDe (mLc (mZip (mCons (mDe (mCall 2 sem_since [] (mCons (mVar 18) (mCons (mVar 10) mNil)))) (mCons (mVar 11) mNil))) [20, 21] (pTup 2 (pCons (pName 20) (pCons (pName 21) pNil))) (mTest (mDe (mCall 2 sem__law_is_later [] (mCons (mVar 20) (mCons (mVar 21) mNil))))) (mC (.int 1)))) (mDe (mLst mNil)))) (mRet (mDr (mC (.bl false)))) mSkip)
def kw0B1B15 : En → WS := (mIf (mTest (mOp (gEq true) (mDe (mCall 2 sem_since [] (mCons (mDe (mMake "Plan" 3 sem_Plan___init__ [] (mCons (mOp gIx (mVar 4) (mC (.int 0))) (mCons (mDe (mCall 2 sem__law_mixed [] (mCons (mVar 2) (mCons (mOp gIx (mVar 4) (mC (.int 1))) mNil)))) mNil)))) (mCons (mVar 10) mNil)))) (mVar 11))) (mRet (mDr (mC (.bl false)))) mSkip)
def kw0B1B : En → WS := mSeq kw0B1B0 (mSeq kw0B1B1 (mSeq kw0B1B2 (mSeq kw0B1B3 (mSeq kw0B1B4 (mSeq kw0B1B5 (mSeq kw0B1B6 (mSeq kw0B1B7 (mSeq kw0B1B8 (mSeq kw0B1B9 (mSeq kw0B1B10 (mSeq kw0B1B11 (mSeq kw0B1B12 (mSeq kw0B1B13 (mSeq kw0B1B14 kw0B1B15))))))))))))))
def kw0B1 : En → WS := (mFor [] (mRng1 (mCons (mC (.int 4)) mNil)) (pName 3) kw0B1B)
def kw0B : En → WS := mSeq kw0B0 kw0B1
def kw0 : En → WS := (mFor [0] (mRng1 (mCons (mDe (mBlt (gMM true) (mCons (mC (.int 1)) (mCons (mDe (mBlt (gMM false) (mCons (mC (.int 4)) (mCons (mDe (mBlt (g1 lenD) (mCons (mVar 0) mNil))) mNil)))) mNil)))) mNil)) (pName 1) kw0B)
def kw1 : En → WS := (mRet (mDr (mC (.bl true))))
def kw : En → WS := mSeq kw0 kw1
theorem kw_sem : sem_law = runBody 25 kw := rfl
theorem since_call {P : Pl} (ok : P.Ok) (sz : P.ps.length < sizeLine) {ws : Wl} (hw : WOk P ws) {a : Ro → W Ex (List D)} {R : Ro} (ha : a R = W.ret [plD P, .lst (ws.map fstD)]) : mCall 2 sem_since [] a R = W.ret (false, .tup (P.names.map fun n => optD (sinceM P ws n))) :=
  call_eq (ds := [plD P, wrapD false (ws.map fstD)]) ha rfl (since_eq P ok sz false hw)
theorem ne_tups (N : List Str) (f : Str → Option Int) : gEq true (.tup (N.map fun n => optD (f n))) (.tup (N.map fun n => optD (f n))) = W.ret (.bl false) := by
  have := same_opts (N.map f) true
  rw [List.map_map] at this
  exact this
theorem two_map {f : Str → Option Int} {N : List Str} : (N.map fun n => optD (f n)) = N.map (fun n => optD (f n)) := rfl
theorem shows_on {P : Pl} (g : Dy) (q : Per → Int) (d : Int) {x : Str} (h : x ∈ ((P.ps.filter (inLot g q d)).map (·.nm)).mergeSort leS) : x ∈ ((P.ps.filter (inLot g q (d + 1))).map (·.nm)).mergeSort leS := by
  have h := (List.mergeSort_perm _ leS).mem_iff.mp h
  refine (List.mergeSort_perm _ leS).mem_iff.mpr ?_
  obtain ⟨p, hp, rfl⟩ := List.mem_map.mp h
  obtain ⟨h1, h2⟩ := List.mem_filter.mp hp
  exact List.mem_map.mpr ⟨p, List.mem_filter.mpr ⟨h1, lot_on h2⟩, rfl⟩
theorem lot_names {P : Pl} {g : Dy} {q : Per → Int} {d : Int} {x : Str} (h : x ∈ ((P.ps.filter (inLot g q d)).map (·.nm)).mergeSort leS) : x ∈ P.names := by
  have h := (List.mergeSort_perm _ leS).mem_iff.mp h
  obtain ⟨p, hp, rfl⟩ := List.mem_map.mp h
  exact List.mem_map_of_mem (List.mem_filter.mp hp).1
theorem lot_len {P : Pl} (g : Dy) (q : Per → Int) (d : Int) : (((P.ps.filter (inLot g q d)).map (·.nm)).mergeSort leS).length ≤ P.ps.length := by
  rw [(List.mergeSort_perm _ leS).length_eq, List.length_map]
  exact List.length_filter_le _ _
/-- .. not in .. of the next day: none -/
theorem on_if {l : List (Nat × D)} {R : Ro} {P : Pl} (ok : P.Ok) {ws : Wl} {d : Int} {sem : List D → Rt} {q : Per → Int} (g : Dy)
    (hs : ∀ d, sem [plD P, wrapD false (ws.map fstD), .int d] = W.ret (false, .tup ((((P.ps.filter (inLot g q d)).map (·.nm)).mergeSort leS).map D.str)))
    (hR : RK 25 R l) (h5 : l.lookup 5 = some (plD P)) (h10 : l.lookup 10 = some (.lst (ws.map fstD))) (h16 : l.lookup 16 = some (.int d)) :
    (mTest (mOp (gEq true) (mDe (mLc (mWalk (mDe (mCall 3 sem [] (mCons (mVar 5) (mCons (mVar 10) (mCons (mVar 16) mNil)))))) [19] (pName 19) (mTest (mOp (gIn true) (mVar 19) (mDe (mCall 3 sem [] (mCons (mVar 5) (mCons (mVar 10) (mCons (mDe (mOpR gAdd (mVar 16) (mC (.int 1)))) mNil))))))) (mVar 19))) (mDe (mLst mNil)))) R = W.ret false := by
  refine test_eq false (op_eq (a := .lst []) (b := .lst []) (de_eq (b := true) (mlcE D.str (fun x => [(19, .str x)]) hR (((P.ps.filter (inLot g q d)).map (·.nm)).mergeSort leS) (walk_eq (d := .tup ((((P.ps.filter (inLot g q d)).map (·.nm)).mergeSort leS).map D.str)) (de_eq (b := false) (call_eq (ds := [plD P, wrapD false (ws.map fstD), .int d]) (cons_eq (hR.v h5) (cons_eq (hR.v h10) (cons_eq (hR.v h16) rfl))) rfl (hs d))) rfl) (Nat.le_trans (lot_len g q d) ok.lp) fun x hx => ⟨⟨rfl, rfl, rfl, rfl⟩, fun R' h' => ?_⟩)) (de_eq (b := true) (lst_eq rfl (Nat.zero_le _))) rfl)
  have e5 : ((19, D.str x) :: l).lookup 5 = some (plD P) := h5
  have e10 : ((19, D.str x) :: l).lookup 10 = some (.lst (ws.map fstD)) := h10
  have e16 : ((19, D.str x) :: l).lookup 16 = some (.int d) := h16
  refine test_eq false (op_eq (a := .str x) (b := .tup ((((P.ps.filter (inLot g q (d + 1))).map (·.nm)).mergeSort leS).map D.str)) (h'.v rfl) (de_eq (b := false) (call_eq (ds := [plD P, wrapD false (ws.map fstD), .int (d + 1)]) (cons_eq (h'.v e5) (cons_eq (h'.v e10) (cons_eq (de_eq (b := false) (opR_eq (h'.v e16) rfl rfl)) rfl))) rfl (hs (d + 1)))) ?_)
  rw [in_tups true (name_strOk (ok.nm x (lot_names hx))) fun y hy => name_strOk (ok.nm y (lot_names hy))]
  rw [show ((((P.ps.filter (inLot g q (d + 1))).map (·.nm)).mergeSort leS).any fun y => y == x) = true from List.any_eq_true.mpr ⟨x, shows_on g q d hx, beq_self_eq_true x⟩]; rfl
/-- none later -/
theorem later_if {l : List (Nat × D)} {R : Ro} {N : List Str} (hN : N.length ≤ sizeLine) {f g : Dy} {m : Ro → W Ex (List D)} {i j : Nat} (hR : RK 25 R l) (hm : m R = W.ret [.tup (N.map fun n => optD (f n)), .tup (N.map fun n => optD (g n))]) (hij : (i = 20 ∧ j = 21 ∧ leF f g) ∨ (i = 21 ∧ j = 20 ∧ leF g f)) :
    (mTest (mOp (gEq true) (mDe (mLc (mZip m) [20, 21] (pTup 2 (pCons (pName 20) (pCons (pName 21) pNil))) (mTest (mDe (mCall 2 sem__law_is_later [] (mCons (mVar i) (mCons (mVar j) mNil))))) (mC (.int 1)))) (mDe (mLst mNil)))) R = W.ret false := by
  refine test_eq false (op_eq (a := .lst []) (b := .lst []) (de_eq (b := true) (mlcE (fun n => .tup [optD (f n), optD (g n)]) (fun n => [(20, optD (f n)), (21, optD (g n))]) hR N ?_ hN fun x hx => ⟨⟨rfl, rfl, rfl, rfl⟩, fun R' h' => ?_⟩)) (de_eq (b := true) (lst_eq rfl (Nat.zero_le _))) rfl)
  · show (W.bind (m R) zippedD) = _
    rw [hm, ← zip_fg]; rfl
  · have v20 : mVar 20 R' = W.ret (optD (f x)) := h'.v rfl
    have v21 : mVar 21 R' = W.ret (optD (g x)) := h'.v rfl
    rcases hij with ⟨rfl, rfl, hh⟩ | ⟨rfl, rfl, hh⟩
    · have := later_eq (f x) (g x)
      rw [later_no (hh x)] at this
      exact test_eq false (de_eq (call_eq (ds := [optD (f x), optD (g x)]) (cons_eq v20 (cons_eq v21 rfl)) rfl this))
    · have := later_eq (g x) (f x)
      rw [later_no (hh x)] at this
      exact test_eq false (de_eq (call_eq (ds := [optD (g x), optD (f x)]) (cons_eq v21 (cons_eq v20 rfl)) rfl this))
theorem least_zip {l : List (Nat × D)} {R : Ro} {N : List Str} (hN : N.length ≤ sizeLine) {f g : Dy} (hR : RK 25 R l) (h11 : l.lookup 11 = some (.tup (N.map fun n => optD (f n)))) (h12 : l.lookup 12 = some (.tup (N.map fun n => optD (g n)))) :
    (mDe (mBlt (gTuple) (mCons (mDe (mLc (mZip (mCons (mVar 11) (mCons (mVar 12) mNil))) [20, 21] (pTup 2 (pCons (pName 20) (pCons (pName 21) pNil))) mYes (mDe (mCall 2 sem__law_least [] (mCons (mVar 20) (mCons (mVar 21) mNil)))))) mNil))) R = W.ret (.tup (N.map fun n => optD (leastM (f n) (g n)))) := by
  refine de_eq (b := false) (blt_eq (ds := [wrapD false (N.map fun n => optD (leastM (f n) (g n)))]) (cons_eq (de_eq (b := true) (mlcY (fun n => .tup [optD (f n), optD (g n)]) (fun n => [(20, optD (f n)), (21, optD (g n))]) (fun n => optD (leastM (f n) (g n))) hR N ?_ hN fun x hx => ⟨⟨rfl, rfl, rfl, rfl⟩, fun R' h' => ?_⟩)) rfl) (tuple_wrap false _))
  · show (W.bind (mCons (mVar 11) (mCons (mVar 12) mNil) R) zippedD) = _
    rw [cons_eq (hR.v h11) (cons_eq (hR.v h12) rfl), ← zip_fg]; rfl
  · exact de_eq (call_eq (ds := [optD (f x), optD (g x)]) (cons_eq (h'.v rfl) (cons_eq (h'.v rfl) rfl)) rfl (least_eq _ _))
theorem ends_eq {l : List (Nat × D)} {R : Ro} {P : Pl} (hR : RK 25 R l) (nd : P.names.Nodup) (hl : P.ps.length ≤ sizeLine) (h4 : l.lookup 4 = some (toldD P)) :
    (mBlt (gDictP) (mCons (mDe (mLc (mWalk (mOp gIx (mVar 4) (mC (.int 0)))) [19, 22, 23, 24] (pTup 4 (pCons (pName 19) (pCons (pName 22) (pCons (pName 23) (pCons (pName 24) pNil))))) (mTest (mOp (gIs true) (mVar 24) (mC .non))) (mTup (mCons (mVar 19) (mCons (mVar 24) mNil))))) mNil)) R = W.ret (true, .dic (spanD P.ps)) := by
  refine blt_eq (cons_eq (de_eq (b := true) (mlcR perD (fun p => [(19, .str p.nm), (22, .int p.w), (23, .int p.s), (24, spD p.sp)]) (fun p => p.sp.isSome) (fun p => .tup [.str p.nm, spD p.sp]) hR P.ps (walk_eq (op_eq (hR.v h4) rfl rfl) rfl) hl fun p hp => ⟨⟨rfl, rfl, rfl, rfl⟩, fun R' h' => ⟨test_eq _ (op_eq (h'.v rfl) rfl ?_), fun _ => tup_eq (cons_eq (h'.v rfl) (cons_eq (h'.v rfl) rfl)) (small (by show 2 ≤ 1000; decide))⟩⟩)) rfl) ?_
  · rcases p.sp with _ | ⟨lo, hi⟩ <;> rfl
  · refine (dictP_of (·.nm) (fun p => spD p.sp) (l := P.ps.filter fun p => p.sp.isSome) ?_).trans rfl
    exact (List.Sublist.map _ List.filter_sublist).nodup nd
theorem slow_eq {l : List (Nat × D)} {R : Ro} {P : Pl} {ws : Wl} (hR : RK 25 R l) (nd : P.names.Nodup) (hw : WOk P ws) (h7 : l.lookup 7 = some (wD ws)) (h13 : l.lookup 13 = some (.dic (spanD P.ps))) :
    (mBlt (gDictP) (mCons (mDe (mLc (mItemsV 7) [19, 16] (pTup 2 (pCons (pName 19) (pCons (pName 16) pNil))) mYes (mTup (mCons (mVar 19) (mCons (mDe (mBlt (gMM false) (mCons (mDe (mBlt (g1 intD) (mCons (mOp gIx (mOp gIx (mVar 13) (mVar 19)) (mC (.int 1))) mNil))) (mCons (mDe (mBlt (g1 intD) (mCons (mDe (mOpR gAdd (mVar 16) (mC (.int 1)))) mNil))) mNil)))) mNil))))) mNil)) R = W.ret (true, wD (ws.map (slowW P))) := by
  refine blt_eq (cons_eq (de_eq (b := true) (mlcY fstD (fun w => [(19, .str w.1), (16, .int w.2)]) (fun w => Fb.pairD (fstK (slowW P w))) hR ws ?_ hw.len fun w hw' => ⟨⟨rfl, rfl, rfl, rfl⟩, fun R' h' => ?_⟩)) rfl) ?_
  · show (W.bind (mVar 7 R) fun d => W.got (asK d) fun kvs => W.ret (kvs.map Fb.pairD)) = _
    rw [hR.v h7]
    show W.ret ((ws.map fstK).map Fb.pairD) = _
    rw [List.map_map]; rfl
  · obtain ⟨lo, hi, lk, es, _⟩ := span_of nd (hw.ok w hw')
    have e13 : ([(19, D.str w.1), (16, D.int w.2)] ++ l).lookup 13 = some (.dic (spanD P.ps)) := h13
    refine tup_eq (ds := [.str w.1, .int (if w.2 + 1 < spanM P w.1 then w.2 + 1 else spanM P w.1)]) (cons_eq (h'.v rfl) (cons_eq (de_eq (b := false) (blt_eq (ds := [.int hi, .int (w.2 + 1)]) (cons_eq (de_eq (b := false) (blt_eq (ds := [.int hi]) (cons_eq (op_eq (op_eq (h'.v e13) (h'.v rfl) (ix_look lk)) rfl rfl) rfl) rfl)) (cons_eq (de_eq (b := false) (blt_eq (ds := [.int (w.2 + 1)]) (cons_eq (de_eq (b := false) (opR_eq (h'.v rfl) rfl rfl)) rfl) rfl)) rfl)) ?_)) rfl)) (small (by show 2 ≤ 1000; decide))
    rw [es]; rfl
  · have := dictP_world (ws := ws.map (slowW P)) (by rw [List.map_map]; exact hw.nd)
    rw [List.map_map] at this
    exact this
end FbL
end

section
set_option Elab.async false
set_option linter.all false
set_option maxRecDepth 100000
set_option maxHeartbeats 1000000
namespace FbL
open PySem PySem.Spec PyProof.Rows L2 Fb TL
section
variable {ns : List Int}
def K1 (ns : List Int) : List (Nat × Bool × D) := [(2, false, .box 1), (0, false, .scr ns)]
theorem pos_lc {P : Pl} (h : P.Ok) : P.names.length ≤ sizeLine := by unfold Pl.names; rw [List.length_map]; exact h.lp
theorem met_ok {P : Pl} (h : Drawn P) {m : Met} (hm : 0 ≤ m.day ∧ m.day ≤ 11 ∧ m.one ≠ m.other ∧ m.one ∈ P.names ∧ m.other ∈ P.names) : metOk P.names m = true := by
  have : Drawn ⟨P.ps, [m]⟩ := ⟨h.two, h.most, h.per, h.nd, h.nm, fun x hx => by cases List.mem_singleton.mp hx; exact hm, by show 1 ≤ 100; decide⟩
  exact this.ok.met m (List.mem_singleton.mpr rfl)
theorem names_blk {R : Ro} {l : List (Nat × D)} {P : Pl} (hR : RK 25 R l) (hl : P.ps.length ≤ sizeLine) (h4 : l.lookup 4 = some (toldD P)) : (mDe (mLc (mWalk (mOp gIx (mVar 4) (mC (.int 0)))) [19] (pName 19) mYes (mOp gIx (mVar 19) (mC (.int 0))))) R = W.ret (.lst (P.names.map D.str)) := by
  have := mlcY perD (m := mWalk (mOp gIx (mVar 4) (mC (.int 0)))) (p := pName 19) (vs := [19]) (e := mOp gIx (mVar 19) (mC (.int 0))) (fun p => [(19, perD p)]) (fun p => .str p.nm) hR P.ps (walk_eq (op_eq (hR.v h4) rfl rfl) rfl) hl fun p hp => ⟨⟨rfl, rfl, rfl, rfl⟩, fun R' h' => op_eq (h'.v (d := perD p) rfl) rfl rfl⟩
  refine (de_eq this).trans ?_
  unfold Pl.names
  rw [List.map_map]; rfl
theorem body_run {ρ : En} {Q : Fl × En → Prop} {E : Ex × En → Prop} (h : EK 25 ρ (K1 ns)) (q : ∀ ρ', EK 25 ρ' (K1 ns) → Q (.nx, ρ')) : kw0B1B ρ Q E := by
  have z := sizeLine_ge
  refine r_seq (drawn_set (mn := 5) (be := 4) (me := 12) (by decide) (cons_eq ((h.see [2]).v rfl) rfl) fun P hP => r_nx ?_)
  replace h : EK 25 ((frz [2] ρ).set 4 (some (true, toldD P))) ((4, false, toldD P) :: K1 ns) := by
    have := (h.frzF rfl [2]).set (i := 4) (by decide) (true, toldD P)
    exact EK.cons this rfl (fun z => nomatch z) (this.tl rfl)
  have ok := hP.ok
  have sz := hP.sz
  have nd : P.names.Nodup := ok.nd
  obtain ⟨f1, hwl⟩ := hP.worlds
  -- the plan, the worlds
  refine r_seq (r_par (r_parN h fun R hR => r_eq (call_eq (ds := [toldD P]) (cons_eq (hR.v rfl) rfl) rfl (made_eq hP.text)) (q_setF h rfl (by decide) fun ρ1 h1 => r_parN h1 fun R hR => r_eq (call_eq (ds := [toldD P]) (cons_eq (hR.v rfl) rfl) rfl hwl) (q_setF h1 rfl (by decide) fun ρ2 h2 => r_par0 (r_nx ?_)))))
  have wne : (worldsM P.ps).map wD ≠ [] := fun e => worldsM_ne P.ps (List.map_eq_nil_iff.mp e)
  have wl : ((worldsM P.ps).map wD).length ≤ 1000000 := by rw [List.length_map]; exact hP.wlen
  refine r_seq (r_par (r_parN h2 fun R hR => one_of_run wne wl (cons_eq (hR.v rfl) (cons_eq (hR.v rfl) rfl)) fun x hx => q_setF h2 rfl (by decide) fun ρ3 h3 => r_parN h3 fun R hR => one_of_run wne wl (cons_eq (hR.v rfl) (cons_eq (hR.v rfl) rfl)) fun y hy => q_setF h3 rfl (by decide) fun ρ4 h4 => r_par0 (r_nx ?_)))
  obtain ⟨ws1, hw1, rfl⟩ := List.mem_map.mp hx
  obtain ⟨ws2, hw2, rfl⟩ := List.mem_map.mp hy
  have k1 := hP.wok hw1
  have k2 := hP.wok hw2
  have wlen : ∀ {ws}, ws ∈ worldsM P.ps → ws.length ≤ 100 := fun hws => by
    have := (worldsM_in hP.nd _ hws).len
    have := hP.most
    omega
  have ex : ∀ R, RK 25 R (seeK [7, 8] ((8, false, wD ws2) :: (7, false, wD ws1) :: (6, false, .lst ((worldsM P.ps).map wD)) :: (5, false, plD P) :: (4, false, toldD P) :: K1 ns)) → _ := fun R hR => both_dict k1 k2 (wlen hw1) (wlen hw2) (hR.v rfl) (hR.v rfl) (by rw [hR.len]; decide)
  refine r_seq (r_set h4 fun R hR => ?_)
  obtain ⟨ws, e9, k9, f9⟩ := both_dict k1 k2 (wlen hw1) (wlen hw2) (hR.v rfl) (hR.v rfl) (by rw [hR.len]; decide)
  refine r_eq e9 (q_setF h4 rfl (by decide) fun ρ5 h5 => r_nx ?_)
  refine s_set h5 rfl (by decide) (fun R hR => items_eq (ws := ws1) (hR.v rfl)) fun ρ6 h6 => ?_
  refine r_seq (r_par (r_parN h6 fun R hR => r_eq (since_call ok sz k1 (cons_eq (hR.v rfl) (cons_eq (hR.v rfl) rfl))) (q_setF h6 rfl (by decide) fun ρ7 h7 => r_parN h7 fun R hR => r_eq (since_call ok sz k2 (cons_eq (hR.v rfl) (cons_eq (de_eq (items_eq (ws := ws2) (hR.v rfl))) rfl))) (q_setF h7 rfl (by decide) fun ρ8 h8 => r_par0 (r_nx ?_)))))
  have both : sinceM P ws = fun n => leastM (sinceM P ws1 n) (sinceM P ws2 n) := by
    unfold sinceM
    rw [f9, both_eq ok]
  refine s_if h8 (fun R hR => test_eq false (op_eq (de_eq (since_call ok sz k9 (cons_eq (hR.v rfl) (cons_eq (de_eq (items_eq (ws := ws) (hR.v rfl))) rfl)))) (least_zip (pos_lc ok) hR rfl rfl) ?_)) ?_
  · rw [both]; exact ne_tups _ _
  refine s_set h8 rfl (by decide) (fun R hR => ends_eq hR nd ok.lp rfl) fun ρ9 h9 => ?_
  refine s_set h9 rfl (by decide) (fun R hR => slow_eq hR nd k1 rfl rfl) fun ρ10 h10 => ?_
  refine s_set h10 rfl (by decide) (fun R hR => since_call ok sz (slow_ok nd k1) (cons_eq (hR.v rfl) (cons_eq (de_eq (items_eq (ws := ws1.map (slowW P)) (hR.v rfl))) rfl))) fun ρ11 h11 => ?_
  refine s_if h11 (fun R hR => later_if (f := sinceM P (ws1.map (slowW P))) (g := sinceM P ws1) (pos_lc ok) hR (cons_eq (hR.v rfl) (cons_eq (hR.v rfl) rfl)) (.inr ⟨rfl, rfl, sinceF_mono ok (slow_later nd k1)⟩)) ?_
  refine r_seq (s_forL (fun k : Nat => .int (0 + (k : Int))) (List.range 14) h11 rfl (by decide) (fun R hR => rfl) (fun d _ ρ' h' Q' hq => ?_) fun ρ12 h12 => r_nx ?_)
  · refine s_if h' (fun R hR => on_if ok (sinceM P ws1) (shows_eq P ok sz false k1) hR rfl rfl rfl) ?_
    exact s_ifL h' (fun R hR => on_if ok (sinceM P ws1) (able_eq P ok sz false k1) hR rfl rfl rfl) (hq _ (h'.tl rfl))
  refine r_seq (r_set h12 fun R hR => r_slice (r_de (mixed_run (l := P.names.map D.str) (by unfold Pl.names; rw [List.length_map, List.length_map]; have := hP.most; omega) (imms_of D.str (fun _ => rfl) _) (cons_eq (hR.v rfl) (cons_eq (names_blk hR ok.lp rfl) rfl)) fun k hk => r_nopart ?_)))
  obtain ⟨k', hk', rfl⟩ := perm_map D.str (fun d => match d with | .str s => s | _ => "") (fun _ => rfl) hk
  obtain ⟨x, y, rest, rfl⟩ : ∃ x y rest, k' = x :: y :: rest := by
    have h2 : 2 ≤ k'.length := by rw [hk'.length_eq]; unfold Pl.names; rw [List.length_map]; exact hP.two
    rcases k' with _ | ⟨x, _ | ⟨y, rest⟩⟩
    · exact absurd h2 (by decide)
    · exact absurd (show 2 ≤ 1 from h2) (by decide)
    · exact ⟨x, y, rest, rfl⟩
  have hne : x ≠ y := by
    have := hk'.nodup_iff.mpr nd
    rw [List.nodup_cons] at this
    exact fun e => this.1 (by rw [e]; exact List.mem_cons_self)
  have hxn : x ∈ P.names := hk'.mem_iff.mp List.mem_cons_self
  have hyn : y ∈ P.names := hk'.mem_iff.mp (List.mem_cons_of_mem _ List.mem_cons_self)
  have cut : gSl (.lst ((x :: y :: rest).map D.str)) none (some 2) = W.ret (true, .lst [.str x, .str y]) := by
    show W.ret (true, D.lst (Fb.cutD _ none (some 2))) = _
    rw [cut_to _ (by decide)]; rfl
  refine r_eq (m := mPart (mC (.int 2)) R) (a := some (2 : Int)) rfl ?_
  refine r_eq cut ?_
  refine q_setF h12 rfl (by decide) fun ρ13 h13 => r_nx ?_
  refine r_seq (r_set h13 fun R hR => r_meth (r_eq (hR.v rfl) (r_got (a := plF P) rfl (r_pos rfl (r_bind (r_cons (r_de (r_lst (r_cons (r_tup (r_cons (r_de (choose_run (by decide) (cons_eq (hR.v rfl) (cons_eq rfl rfl)) fun r r0 r1 => ?_)))))))))))))
  refine r_eq (cons_eq (op_eq (a := .lst [.str x, .str y]) (b := .int 0) (hR.v rfl) rfl rfl) (cons_eq (op_eq (a := .lst [.str x, .str y]) (b := .int 1) (hR.v rfl) rfl rfl) rfl)) ?_
  refine r_szd (small (by show 3 ≤ 1000; decide)) (r_ret ?_)
  refine r_nil ?_
  refine r_szd (small (by show 1 ≤ 1000; decide)) (r_ret ?_)
  refine r_nil ?_
  refine r_methif rfl ?_
  have mok : metOk P.names ⟨r, x, y⟩ = true := met_ok hP ⟨r0, show r ≤ 11 by omega, hne, hxn, hyn⟩
  have wok : Pl.Ok ⟨P.ps, P.ms ++ [⟨r, x, y⟩]⟩ := ⟨ok.ne, ok.lp, by rw [List.length_append]; have := hP.few; show P.ms.length + 1 ≤ sizeLine; omega, ok.per, ok.nd, fun m hm => (List.mem_append.mp hm).elim (ok.met m) fun z => by cases List.mem_singleton.mp z; exact mok⟩
  refine r_eq (further_eq P false [⟨r, x, y⟩] wok) (q_setF h13 rfl (by decide) fun ρ14 h14 => r_nx ?_)
  have kw : WOk ⟨P.ps, P.ms ++ [⟨r, x, y⟩]⟩ ws1 := ⟨k1.len, k1.ok, k1.nd⟩
  refine s_if h14 (fun R hR => later_if (f := sinceM ⟨P.ps, P.ms ++ [⟨r, x, y⟩]⟩ ws1) (g := sinceM P ws1) (pos_lc ok) hR (cons_eq (de_eq (since_call wok sz kw (cons_eq (hR.v rfl) (cons_eq (hR.v rfl) rfl)))) (cons_eq (hR.v rfl) rfl)) (.inl ⟨rfl, rfl, show leF (sinceM ⟨P.ps, P.ms ++ [⟨r, x, y⟩]⟩ ws1) (sinceM P ws1) from fewer_le ok wok rfl (fun m hm => List.mem_append_left _ hm) (fstF ws1)⟩)) ?_
  have imet : imms (P.ms.map metD) = true := imms_of metD (fun _ => rfl) _
  refine r_if h14 fun R hR => r_test (r_op (r_de (r_call (r_cons (r_de (r_make (r_cons (r_eq (op_eq (a := toldD P) (b := .int 0) (r := .lst (P.ps.map perD)) (hR.v rfl) rfl rfl) (r_cons (r_de (mixed_run (l := P.ms.map metD) (by rw [List.length_map]; have := hP.few; omega) imet (cons_eq (hR.v rfl) (cons_eq (op_eq (a := toldD P) (b := .int 1) (hR.v rfl) rfl rfl) rfl)) fun k hk => r_nil ?_)))))))))))
  obtain ⟨ms, hms, rfl⟩ := perm_map metD (fun d => match d with | .tup [.int d, .str a, .str b] => ⟨d, a, b⟩ | _ => ⟨0, "", ""⟩) (fun _ => rfl) hk
  have pok : Pl.Ok ⟨P.ps, ms⟩ := ⟨ok.ne, ok.lp, by show ms.length ≤ _; rw [hms.length_eq]; exact ok.lm, ok.per, ok.nd, fun m hm => ok.met m (hms.mem_iff.mp hm)⟩
  have kp : WOk ⟨P.ps, ms⟩ ws1 := ⟨k1.len, k1.ok, k1.nd⟩
  have mk := make_eq ⟨P.ps, ms⟩ pok false false (a := fun _ => W.ret [.lst (P.ps.map perD), .lst (ms.map metD)]) (ρ := R) rfl
  refine r_eq mk ?_
  refine r_eq (cons_eq (hR.v rfl) rfl) ?_
  refine r_callif rfl ?_
  refine r_eq (since_eq ⟨P.ps, ms⟩ pok sz false kp) ?_
  refine r_eq (hR.v rfl) ?_
  have e : sinceM ⟨P.ps, ms⟩ ws1 = sinceM P ws1 := perm_days ok pok rfl hms (fstF ws1)
  refine r_eq (by rw [e]; exact ne_tups _ _) (r_asB (r_f (r_skip (q _ ?_))))
  exact EK.cons h14 rfl (fun z => nomatch z) (EK.cons h14 rfl (fun z => nomatch z) (EK.nil h14.len))
end
theorem law_true (ns : List Int) (hl : ns.length ≤ 63) : sem_law [.scr ns] (fun r => r.2 = .bl true) fun _ => False := by
  rw [kw_sem]
  refine r_body (show 1 ≤ 25 by decide) fun ρ h => ?_
  refine r_seq (r_for h fun R hR => ?_)
  obtain ⟨m, hm, e⟩ := count_eq 4 (by decide) (by decide) ns hl R (hR.v rfl)
  refine r_eq e ?_
  refine q_forL (fun k : Nat => D.int (0 + (k : Int))) (List.range m) (h : EK 25 ρ [(0, false, .scr ns)]) rfl (by decide) (fun k hk ρ' h' Q' hq => ?_) fun ρ' _ => r_nx rfl
  have hk := List.mem_range.mp hk
  have c : sem__law_seed [.scr ns, .int (0 + (k : Int))] = W.ret (false, .box 1) := if_pos ⟨hl, by omega, by omega⟩
  refine s_set h' rfl (by decide) (fun R hR => call_eq (ds := [.scr ns, .int (0 + (k : Int))]) (cons_eq (hR.v rfl) (cons_eq (hR.v rfl) rfl)) rfl c) fun ρ1 h1 => ?_
  have h2 : EK 25 ρ1 (K1 ns) := EK.cons h1 rfl (fun z => nomatch z) (EK.cons h1 rfl (fun z => nomatch z) (EK.nil h1.len))
  exact s_forL (fun k : Nat => D.int (0 + (k : Int))) (List.range 4) h2 rfl (by decide) (fun R hR => rfl) (fun d _ ρ' h' Q' hq => body_run (h'.tl rfl) hq) fun ρ3 h3 => hq _ (EK.cons h3 rfl (fun z => nomatch z) (EK.nil h3.len))
end FbL
end

section
set_option Elab.async false
set_option linter.all false
set_option maxRecDepth 100000
set_option maxHeartbeats 4000000
namespace FbL
open PySem PySem.Spec PyProof.Rows L2 Fb
def topS (i : Nat) : Stmt := PySem.Challenge.pw_firstbore_k18_whole_worlds_put_together.main.body.getD i (.Pass ⟨0, 0, 0, 0⟩)
abbrev s__law_choose : Stmt := topS 38
abbrev s_is_integer : Stmt := topS 15
abbrev s_is_length : Stmt := topS 17
abbrev s_is_name : Stmt := topS 18
abbrev s_is_number : Stmt := topS 16
abbrev s_is_span : Stmt := topS 29
abbrev s_is_person : Stmt := topS 30
abbrev s_is_sequence : Stmt := topS 19
abbrev s_are_people : Stmt := topS 31
abbrev s_is_meeting : Stmt := topS 32
abbrev s_Plan___init__ : Stmt := inClass (topS 35) 0
abbrev s_Plan_further : Stmt := inClass (topS 35) 5
abbrev s__law_mixed : Stmt := topS 40
abbrev s__law_one_of : Stmt := topS 39
abbrev s__law_drawn : Stmt := topS 41
abbrev s__law_is_later : Stmt := topS 46
abbrev s__law_least : Stmt := topS 45
abbrev s_number_in : Stmt := topS 20
abbrev s_meeting_in : Stmt := topS 34
abbrev s_person_in : Stmt := topS 33
abbrev s_Plan_read : Stmt := inClass (topS 35) 2
abbrev s__law_text : Stmt := topS 42
abbrev s__law_made : Stmt := topS 43
abbrev s__law_seed : Stmt := topS 37
abbrev s__law_worlds : Stmt := topS 44
abbrev s_Plan_names : Stmt := inClass (topS 35) 1
abbrev s_passed : Stmt := topS 8
abbrev s_days_by : Stmt := topS 7
abbrev s_lot_by : Stmt := topS 25
abbrev s_is_first_one : Stmt := topS 22
abbrev s_spans_of : Stmt := topS 9
abbrev s_need_world : Stmt := topS 23
abbrev s_able : Stmt := topS 26
abbrev s_shows : Stmt := topS 27
abbrev s_since : Stmt := topS 24
abbrev s_law : Stmt := topS 47
structure Txt (G : Wd) (ts : List Tb) (C ed : Addr) (a_Plan___init__ : Addr) (fd_Plan___init__ : FuncData) (a_Plan_further : Addr) (fd_Plan_further : FuncData) (a_Plan_read : Addr) (fd_Plan_read : FuncData) (q_Plan_read : Addr) (a_Plan_names : Addr) (fd_Plan_names : FuncData) (q_Plan_names : Addr) : Prop where
  tabs : G.tabs = tabsOf ts
  b_abs : G.mg "abs" = none
  b_all : G.mg "all" = none
  b_bool : G.mg "bool" = none
  b_dict : G.mg "dict" = none
  b_enumerate : G.mg "enumerate" = none
  b_int : G.mg "int" = none
  b_isinstance : G.mg "isinstance" = none
  b_len : G.mg "len" = none
  b_list : G.mg "list" = none
  b_max : G.mg "max" = none
  b_min : G.mg "min" = none
  b_range : G.mg "range" = none
  b_sorted : G.mg "sorted" = none
  b_str : G.mg "str" = none
  b_tuple : G.mg "tuple" = none
  b_zip : G.mg "zip" = none
  c_LETTERS : ∃ t, G.mg "LETTERS" = some (.str "abcdefghijklmnopqrstuvwxyz" t)
  c_MOST_LETTERS : ∃ t, G.mg "MOST_LETTERS" = some (.int 4 t)
  c_MOST_SIGNS : ∃ t, G.mg "MOST_SIGNS" = some (.int 19 t)
  c_SIGNS : ∃ t, G.mg "SIGNS" = some (.str "0123456789" t)
  f_is_integer : ∃ f fd, G.mg "is_integer" = some (.ref f) ∧ Fun G.K "is_integer" "is_integer" s_is_integer f fd
  f_is_length : ∃ f fd, G.mg "is_length" = some (.ref f) ∧ Fun G.K "is_length" "is_length" s_is_length f fd
  f_is_name : ∃ f fd, G.mg "is_name" = some (.ref f) ∧ Fun G.K "is_name" "is_name" s_is_name f fd
  f_is_number : ∃ f fd, G.mg "is_number" = some (.ref f) ∧ Fun G.K "is_number" "is_number" s_is_number f fd
  f_is_span : ∃ f fd, G.mg "is_span" = some (.ref f) ∧ Fun G.K "is_span" "is_span" s_is_span f fd
  f_is_person : ∃ f fd, G.mg "is_person" = some (.ref f) ∧ Fun G.K "is_person" "is_person" s_is_person f fd
  f_is_sequence : ∃ f fd, G.mg "is_sequence" = some (.ref f) ∧ Fun G.K "is_sequence" "is_sequence" s_is_sequence f fd
  f_are_people : ∃ f fd, G.mg "are_people" = some (.ref f) ∧ Fun G.K "are_people" "are_people" s_are_people f fd
  f_is_meeting : ∃ f fd, G.mg "is_meeting" = some (.ref f) ∧ Fun G.K "is_meeting" "is_meeting" s_is_meeting f fd
  f__law_mixed : ∃ f fd, G.mg "_law_mixed" = some (.ref f) ∧ Fun G.K "_law_mixed" "_law_mixed" s__law_mixed f fd
  f__law_one_of : ∃ f fd, G.mg "_law_one_of" = some (.ref f) ∧ Fun G.K "_law_one_of" "_law_one_of" s__law_one_of f fd
  f__law_drawn : ∃ f fd, G.mg "_law_drawn" = some (.ref f) ∧ Fun G.K "_law_drawn" "_law_drawn" s__law_drawn f fd
  f__law_is_later : ∃ f fd, G.mg "_law_is_later" = some (.ref f) ∧ Fun G.K "_law_is_later" "_law_is_later" s__law_is_later f fd
  f__law_least : ∃ f fd, G.mg "_law_least" = some (.ref f) ∧ Fun G.K "_law_least" "_law_least" s__law_least f fd
  f_number_in : ∃ f fd, G.mg "number_in" = some (.ref f) ∧ Fun G.K "number_in" "number_in" s_number_in f fd
  f_meeting_in : ∃ f fd, G.mg "meeting_in" = some (.ref f) ∧ Fun G.K "meeting_in" "meeting_in" s_meeting_in f fd
  f_person_in : ∃ f fd, G.mg "person_in" = some (.ref f) ∧ Fun G.K "person_in" "person_in" s_person_in f fd
  f__law_text : ∃ f fd, G.mg "_law_text" = some (.ref f) ∧ Fun G.K "_law_text" "_law_text" s__law_text f fd
  f__law_made : ∃ f fd, G.mg "_law_made" = some (.ref f) ∧ Fun G.K "_law_made" "_law_made" s__law_made f fd
  f__law_seed : ∃ f fd, G.mg "_law_seed" = some (.ref f) ∧ Fun G.K "_law_seed" "_law_seed" s__law_seed f fd
  f__law_worlds : ∃ f fd, G.mg "_law_worlds" = some (.ref f) ∧ Fun G.K "_law_worlds" "_law_worlds" s__law_worlds f fd
  f_passed : ∃ f fd, G.mg "passed" = some (.ref f) ∧ Fun G.K "passed" "passed" s_passed f fd
  f_days_by : ∃ f fd, G.mg "days_by" = some (.ref f) ∧ Fun G.K "days_by" "days_by" s_days_by f fd
  f_lot_by : ∃ f fd, G.mg "lot_by" = some (.ref f) ∧ Fun G.K "lot_by" "lot_by" s_lot_by f fd
  f_is_first_one : ∃ f fd, G.mg "is_first_one" = some (.ref f) ∧ Fun G.K "is_first_one" "is_first_one" s_is_first_one f fd
  f_spans_of : ∃ f fd, G.mg "spans_of" = some (.ref f) ∧ Fun G.K "spans_of" "spans_of" s_spans_of f fd
  f_need_world : ∃ f fd, G.mg "need_world" = some (.ref f) ∧ Fun G.K "need_world" "need_world" s_need_world f fd
  f_able : ∃ f fd, G.mg "able" = some (.ref f) ∧ Fun G.K "able" "able" s_able f fd
  f_shows : ∃ f fd, G.mg "shows" = some (.ref f) ∧ Fun G.K "shows" "shows" s_shows f fd
  f_since : ∃ f fd, G.mg "since" = some (.ref f) ∧ Fun G.K "since" "since" s_since f fd
  f__law_choose : ∃ f fd, G.mg "_law_choose" = some (.ref f) ∧ Fun G.K "_law_choose" "_law_choose" s__law_choose f fd
  f_law : ∃ f fd, G.mg "law" = some (.ref f) ∧ Fun G.K "law" "law" s_law f fd
  k_Plan : ClsD G "Plan" C
  n_Plan_people : NoAttr G.K C "people"
  n_Plan_meetings : NoAttr G.K C "meetings"
  f_Plan___init__ : FunI G.K "__init__" "Plan.__init__" s_Plan___init__ a_Plan___init__ fd_Plan___init__ ed
  mk_Plan : Mk G.K C a_Plan___init__
  f_Plan_further : Fun G.K "further" "Plan.further" s_Plan_further a_Plan_further fd_Plan_further
  m_Plan_further : Meth G.K C "further" a_Plan_further
  f_Plan_read : Fun G.K "read" "Plan.read" s_Plan_read a_Plan_read fd_Plan_read
  cm_Plan_read : ClX.CMet G.K C (.type "type") "read" q_Plan_read a_Plan_read
  f_Plan_names : Fun G.K "names" "Plan.names" s_Plan_names a_Plan_names fd_Plan_names
  p_Plan_names : PropOf G.K C "names" q_Plan_names a_Plan_names
  cr_Plan : ClX.CRead G.K C (.type "type")
section
variable {P : Program} {w : World} {G : Wd} {base : Heap} {ts : List Tb} {C ed a_Plan___init__ a_Plan_further a_Plan_read a_Plan_names q_Plan_read q_Plan_names : Addr} {fd_Plan___init__ fd_Plan_further fd_Plan_read fd_Plan_names : FuncData}
abbrev N__law_choose : List Str := ["_law_box", "_law_many", "_law_digit", "_law_raw"]
theorem sc__law_choose : FnScope N__law_choose ["_law_box", "_law_many"] (defScope s__law_choose) := ⟨rfl, rfl, rfl, by decide +kernel, rfl, by decide +kernel, by decide +kernel⟩
theorem ok__law_choose (T : Txt G ts C ed a_Plan___init__ fd_Plan___init__ a_Plan_further fd_Plan_further a_Plan_read fd_Plan_read q_Plan_read a_Plan_names fd_Plan_names q_Plan_names) (B : TbAll G base ts) : FnK P w G base 1 "_law_choose" ["_law_box", "_law_many"] sem__law_choose := by
  obtain ⟨f, fd, hm, F⟩ := T.f__law_choose
  have nd := sc__law_choose.nd
  refine ⟨f, fd, hm, F.kp, F.binds (fun _ _ _ _ _ _ us hl => match us, hl with | [_, _], _ => rfl), fnd_choose 41077 71 2147483563 39373 5209 2147483629 2147483647 8191 ⟨⟨by decide, by decide⟩, by decide, ⟨by decide, by decide⟩, by decide, ⟨by decide, by decide⟩, by decide, by decide⟩ F sc__law_choose fun cdv A outer s H E Z => ?_⟩
  exact pss_cons (ps_if (DT.pt (dt_cmp op_gt dop_gt (de_ix (ix_all Z.K Z.hu1) dop_ix (dv 0) de_int (fun _ _ => rfl)) de_int (nomark _)))
      (pss_cons (ps_set nd rfl (by first | exact .inl rfl | exact .inr rfl) (DE.pe (de_op op_mod dop_mod (dde (dr_callTy (g1_mono _) (bl_int) T.b_int Z.mg (by decide +kernel) (by rfl) (da_cons (de_ix (ix_all Z.K Z.hu1) dop_ix (dv 0) de_int (fun _ _ => rfl)) da_nil))) (dv 1)))) (pss_cons (ps_asg (DE.pe (de_op op_fdiv dop_fdiv (de_ix (ix_all Z.K Z.hu1) dop_ix (dv 0) de_int (fun _ _ => rfl)) (dv 1))) (pg_sub (pv 0) pe_int set_list)) (pss_one (ps_ret (DR.pe (ddr (dv 2))))))) pss_nil)
    (pss_cons (ps_set nd rfl (by first | exact .inl rfl | exact .inr rfl) (DE.pe (de_op op_mod dop_mod (dde (dr_callTy (g1_mono _) (bl_int) T.b_int Z.mg (by decide +kernel) (by rfl) (da_cons (dde (dr_op op_addAll (dop_add Z.K) (de_op op_mul dop_mul (de_ix (ix_all Z.K Z.hu1) dop_ix (dv 0) de_int (fun _ _ => rfl)) de_int) de_int)) da_nil))) de_int))) (pss_cons (ps_asg (DE.pe (dde (dr_op op_addAll (dop_add Z.K) (de_op op_mod dop_mod (dde (dr_callTy (g1_mono _) (bl_int) T.b_int Z.mg (by decide +kernel) (by rfl) (da_cons (dde (dr_op op_addAll (dop_add Z.K) (de_op op_mul dop_mul (dv 3) de_int) de_int)) da_nil))) de_int) de_int))) (pg_sub (pv 0) pe_int set_list)) (pss_one (ps_ret (DR.pe (ddr (de_op op_mod dop_mod (dde (dr_callTy (g1_mono _) (bl_int) T.b_int Z.mg (by decide +kernel) (by rfl) (da_cons (de_op op_fdiv dop_fdiv (dde (dr_op op_addAll (dop_add Z.K) (de_op op_mul dop_mul (dv 3) de_int) (de_ix (ix_all Z.K Z.hu1) dop_ix (dv 0) de_int (fun _ _ => rfl)))) de_int) da_nil))) (dv 1))))))))

abbrev N_is_integer : List Str := ["value"]
theorem sc_is_integer : FnScope N_is_integer ["value"] (defScope s_is_integer) := ⟨rfl, rfl, rfl, by decide +kernel, rfl, by decide +kernel, by decide +kernel⟩
theorem ok_is_integer (T : Txt G ts C ed a_Plan___init__ fd_Plan___init__ a_Plan_further fd_Plan_further a_Plan_read fd_Plan_read q_Plan_read a_Plan_names fd_Plan_names q_Plan_names) (B : TbAll G base ts) : FnK P w G base 1 "is_integer" ["value"] sem_is_integer := by
  obtain ⟨f, fd, hm, F⟩ := T.f_is_integer
  have nd := sc_is_integer.nd
  exact ⟨f, fd, hm, F.kp, F.binds (fun _ _ _ _ _ _ us hl => match us, hl with | [_], _ => rfl), fnd_ok F sc_is_integer (by decide) fun cdv A outer s H E Z =>
    (dss_one (ds_ret (ddr (de_and (dde (dr_callB (g2_mono _) (bl_isi Z.K) T.b_isinstance Z.mg (by decide +kernel) (by rfl) (da_cons (dv 0) (da_cons (dty Z (by rfl) T.b_int (by decide +kernel)) da_nil)))) (de_one (de_not (dde (dr_callB (g2_mono _) (bl_isi Z.K) T.b_isinstance Z.mg (by decide +kernel) (by rfl) (da_cons (dv 0) (da_cons (dty Z (by rfl) T.b_bool (by decide +kernel)) da_nil))))))))))⟩
abbrev N_is_length : List Str := ["value"]
theorem sc_is_length : FnScope N_is_length ["value"] (defScope s_is_length) := ⟨rfl, rfl, rfl, by decide +kernel, rfl, by decide +kernel, by decide +kernel⟩
theorem ok_is_length (T : Txt G ts C ed a_Plan___init__ fd_Plan___init__ a_Plan_further fd_Plan_further a_Plan_read fd_Plan_read q_Plan_read a_Plan_names fd_Plan_names q_Plan_names) (B : TbAll G base ts) : FnK P w G base 2 "is_length" ["value"] sem_is_length := by
  obtain ⟨f, fd, hm, F⟩ := T.f_is_length
  have nd := sc_is_length.nd
  exact ⟨f, fd, hm, F.kp, F.binds (fun _ _ _ _ _ _ us hl => match us, hl with | [_], _ => rfl), fnd_ok F sc_is_length (by decide) fun cdv A outer s H E Z =>
    (dss_one (ds_ret (ddr (de_and (dde (dr_f Z (ok_is_integer T B) (by decide) (by rfl) (da_cons (dv 0) da_nil))) (de_one (de_cmp op_ge dop_ge (dv 0) de_int (nomark _)))))))⟩
abbrev N_is_name : List Str := ["value", "letter"]
theorem sc_is_name : FnScope N_is_name ["value"] (defScope s_is_name) := ⟨rfl, rfl, rfl, by decide +kernel, rfl, by decide +kernel, by decide +kernel⟩
theorem ok_is_name (T : Txt G ts C ed a_Plan___init__ fd_Plan___init__ a_Plan_further fd_Plan_further a_Plan_read fd_Plan_read q_Plan_read a_Plan_names fd_Plan_names q_Plan_names) (B : TbAll G base ts) : FnK P w G base 1 "is_name" ["value"] sem_is_name := by
  obtain ⟨f, fd, hm, F⟩ := T.f_is_name
  have nd := sc_is_name.nd
  exact ⟨f, fd, hm, F.kp, F.binds (fun _ _ _ _ _ _ us hl => match us, hl with | [_], _ => rfl), fnd_ok F sc_is_name (by decide) fun cdv A outer s H E Z =>
    (dss_cons (ds_if (DW.dt (dw_or (dt_not (dt_val (dde (dr_callB (g2_mono _) (bl_isi Z.K) T.b_isinstance Z.mg (by decide +kernel) (by rfl) (da_cons (dv 0) (da_cons (dty Z (by rfl) T.b_str (by decide +kernel)) da_nil)))))) (dw_or1 (dt_not (dt_chain op_le op_le dop_le dop_le de_int (dde (dr_callB (g1_mono _) (bl_len Z.K) T.b_len Z.mg (by decide +kernel) (by rfl) (da_cons (dv 0) da_nil))) (dgi Z (by rfl) T.c_MOST_LETTERS.choose_spec)))))) (dss_one (ds_ret (ddr de_bl))) dss_nil) (dss_one (ds_ret (dr_callB (g1_mono _) (bl_all rfl) T.b_all Z.mg (by decide +kernel) (by rfl) (da_cons (dde (dr_lc (own := [("letter", 1)]) rfl nd (di_walk (by exact Z.K) (dv 0)) (blkOk_by (N := N_is_name) (sc := defScope s_is_name) (by decide +kernel)) (fun s H C cl fp => (dg_name (by exact nd) (by rfl) (by first | exact .inl rfl | exact .inr rfl))) (by decide) (fun s H C cl fp => dts_nil) (fun s H C cl fp => (de_cmp (op_inAll Z.K Z.hu) dop_in (dv 1) (dgs (Z.blk _ _ _ _ _) (by rfl) T.c_LETTERS.choose_spec) (by with_unfolding_all rfl))))) da_nil)))))⟩
abbrev N_is_number : List Str := ["value"]
theorem sc_is_number : FnScope N_is_number ["value"] (defScope s_is_number) := ⟨rfl, rfl, rfl, by decide +kernel, rfl, by decide +kernel, by decide +kernel⟩
theorem ok_is_number (T : Txt G ts C ed a_Plan___init__ fd_Plan___init__ a_Plan_further fd_Plan_further a_Plan_read fd_Plan_read q_Plan_read a_Plan_names fd_Plan_names q_Plan_names) (B : TbAll G base ts) : FnK P w G base 2 "is_number" ["value"] sem_is_number := by
  obtain ⟨f, fd, hm, F⟩ := T.f_is_number
  have nd := sc_is_number.nd
  exact ⟨f, fd, hm, F.kp, F.binds (fun _ _ _ _ _ _ us hl => match us, hl with | [_], _ => rfl), fnd_ok F sc_is_number (by decide) fun cdv A outer s H E Z =>
    (dss_one (ds_ret (ddr (de_and (dde (dr_f Z (ok_is_integer T B) (by decide) (by rfl) (da_cons (dv 0) da_nil))) (de_one (de_cmp op_ge dop_ge (dv 0) de_int (nomark _)))))))⟩
abbrev N_is_span : List Str := ["value"]
theorem sc_is_span : FnScope N_is_span ["value"] (defScope s_is_span) := ⟨rfl, rfl, rfl, by decide +kernel, rfl, by decide +kernel, by decide +kernel⟩
theorem ok_is_span (T : Txt G ts C ed a_Plan___init__ fd_Plan___init__ a_Plan_further fd_Plan_further a_Plan_read fd_Plan_read q_Plan_read a_Plan_names fd_Plan_names q_Plan_names) (B : TbAll G base ts) : FnK P w G base 3 "is_span" ["value"] sem_is_span := by
  obtain ⟨f, fd, hm, F⟩ := T.f_is_span
  have nd := sc_is_span.nd
  exact ⟨f, fd, hm, F.kp, F.binds (fun _ _ _ _ _ _ us hl => match us, hl with | [_], _ => rfl), fnd_ok F sc_is_span (by decide) fun cdv A outer s H E Z =>
    (dss_cons (ds_if (dt_cmp op_isN dop_is (dv 0) de_non (nomark _)) (dss_one (ds_ret (ddr de_bl))) dss_nil) (dss_cons (ds_if (DW.dt (dw_or (dt_not (dt_val (dde (dr_callB (g2_mono _) (bl_isi Z.K) T.b_isinstance Z.mg (by decide +kernel) (by rfl) (da_cons (dv 0) (da_cons (dty Z (by rfl) T.b_tuple (by decide +kernel)) da_nil)))))) (dw_or (dt_cmp (op_neD Z.hu64) (dop_ne Z.K) (dde (dr_callB (g1_mono _) (bl_len Z.K) T.b_len Z.mg (by decide +kernel) (by rfl) (da_cons (dv 0) da_nil))) de_int (nomark _)) (dw_or (dt_not (dt_val (dde (dr_f Z (ok_is_number T B) (by decide) (by rfl) (da_cons (de_ix (ix_all Z.K Z.hu1) dop_ix (dv 0) de_int (fun _ _ => rfl)) da_nil))))) (dw_or1 (dt_not (dt_val (dde (dr_f Z (ok_is_number T B) (by decide) (by rfl) (da_cons (de_ix (ix_all Z.K Z.hu1) dop_ix (dv 0) de_int (fun _ _ => rfl)) da_nil)))))))))) (dss_one (ds_ret (ddr de_bl))) dss_nil) (dss_one (ds_ret (ddr (de_cmp op_le dop_le (de_ix (ix_all Z.K Z.hu1) dop_ix (dv 0) de_int (fun _ _ => rfl)) (de_ix (ix_all Z.K Z.hu1) dop_ix (dv 0) de_int (fun _ _ => rfl)) (nomark _)))))))⟩
abbrev N_is_person : List Str := ["value"]
theorem sc_is_person : FnScope N_is_person ["value"] (defScope s_is_person) := ⟨rfl, rfl, rfl, by decide +kernel, rfl, by decide +kernel, by decide +kernel⟩
theorem ok_is_person (T : Txt G ts C ed a_Plan___init__ fd_Plan___init__ a_Plan_further fd_Plan_further a_Plan_read fd_Plan_read q_Plan_read a_Plan_names fd_Plan_names q_Plan_names) (B : TbAll G base ts) : FnK P w G base 4 "is_person" ["value"] sem_is_person := by
  obtain ⟨f, fd, hm, F⟩ := T.f_is_person
  have nd := sc_is_person.nd
  exact ⟨f, fd, hm, F.kp, F.binds (fun _ _ _ _ _ _ us hl => match us, hl with | [_], _ => rfl), fnd_ok F sc_is_person (by decide) fun cdv A outer s H E Z =>
    (dss_cons (ds_if (DW.dt (dw_or (dt_not (dt_val (dde (dr_callB (g2_mono _) (bl_isi Z.K) T.b_isinstance Z.mg (by decide +kernel) (by rfl) (da_cons (dv 0) (da_cons (dty Z (by rfl) T.b_tuple (by decide +kernel)) da_nil)))))) (dw_or (dt_cmp (op_neD Z.hu64) (dop_ne Z.K) (dde (dr_callB (g1_mono _) (bl_len Z.K) T.b_len Z.mg (by decide +kernel) (by rfl) (da_cons (dv 0) da_nil))) de_int (nomark _)) (dw_or1 (dt_not (dt_val (dde (dr_f Z (ok_is_name T B) (by decide) (by rfl) (da_cons (de_ix (ix_all Z.K Z.hu1) dop_ix (dv 0) de_int (fun _ _ => rfl)) da_nil))))))))) (dss_one (ds_ret (ddr de_bl))) dss_nil) (dss_one (ds_ret (ddr (de_and (dde (dr_f Z (ok_is_length T B) (by decide) (by rfl) (da_cons (de_ix (ix_all Z.K Z.hu1) dop_ix (dv 0) de_int (fun _ _ => rfl)) da_nil))) (de_and (dde (dr_f Z (ok_is_number T B) (by decide) (by rfl) (da_cons (de_ix (ix_all Z.K Z.hu1) dop_ix (dv 0) de_int (fun _ _ => rfl)) da_nil))) (de_one (dde (dr_f Z (ok_is_span T B) (by decide) (by rfl) (da_cons (de_ix (ix_all Z.K Z.hu1) dop_ix (dv 0) de_int (fun _ _ => rfl)) da_nil))))))))))⟩
abbrev N_is_sequence : List Str := ["value"]
theorem sc_is_sequence : FnScope N_is_sequence ["value"] (defScope s_is_sequence) := ⟨rfl, rfl, rfl, by decide +kernel, rfl, by decide +kernel, by decide +kernel⟩
theorem ok_is_sequence (T : Txt G ts C ed a_Plan___init__ fd_Plan___init__ a_Plan_further fd_Plan_further a_Plan_read fd_Plan_read q_Plan_read a_Plan_names fd_Plan_names q_Plan_names) (B : TbAll G base ts) : FnK P w G base 1 "is_sequence" ["value"] sem_is_sequence := by
  obtain ⟨f, fd, hm, F⟩ := T.f_is_sequence
  have nd := sc_is_sequence.nd
  exact ⟨f, fd, hm, F.kp, F.binds (fun _ _ _ _ _ _ us hl => match us, hl with | [_], _ => rfl), fnd_ok F sc_is_sequence (by decide) fun cdv A outer s H E Z =>
    (dss_one (ds_ret (dr_callB (g2_mono _) (bl_isi Z.K) T.b_isinstance Z.mg (by decide +kernel) (by rfl) (da_cons (dv 0) (da_cons (de_tup (da_cons (dty Z (by rfl) T.b_list (by decide +kernel)) (da_cons (dty Z (by rfl) T.b_tuple (by decide +kernel)) da_nil))) da_nil)))))⟩
abbrev N_are_people : List Str := ["value", "one"]
theorem sc_are_people : FnScope N_are_people ["value"] (defScope s_are_people) := ⟨rfl, rfl, rfl, by decide +kernel, rfl, by decide +kernel, by decide +kernel⟩
theorem ok_are_people (T : Txt G ts C ed a_Plan___init__ fd_Plan___init__ a_Plan_further fd_Plan_further a_Plan_read fd_Plan_read q_Plan_read a_Plan_names fd_Plan_names q_Plan_names) (B : TbAll G base ts) : FnK P w G base 5 "are_people" ["value"] sem_are_people := by
  obtain ⟨f, fd, hm, F⟩ := T.f_are_people
  have nd := sc_are_people.nd
  exact ⟨f, fd, hm, F.kp, F.binds (fun _ _ _ _ _ _ us hl => match us, hl with | [_], _ => rfl), fnd_ok F sc_are_people (by decide) fun cdv A outer s H E Z =>
    (dss_cons (ds_if (DW.dt (dw_or (dt_not (dt_val (dde (dr_f Z (ok_is_sequence T B) (by decide) (by rfl) (da_cons (dv 0) da_nil))))) (dw_or (dt_cmp (op_eqD Z.hu64) (dop_eq Z.K) (dde (dr_callB (g1_mono _) (bl_len Z.K) T.b_len Z.mg (by decide +kernel) (by rfl) (da_cons (dv 0) da_nil))) de_int (nomark _)) (dw_or1 (dt_not (dt_val (dde (dr_callB (g1_mono _) (bl_all rfl) T.b_all Z.mg (by decide +kernel) (by rfl) (da_cons (dde (dr_lc (own := [("one", 1)]) rfl nd (di_walk (by exact Z.K) (dv 0)) (blkOk_by (N := N_are_people) (sc := defScope s_are_people) (by decide +kernel)) (fun s H C cl fp => (dg_name (by exact nd) (by rfl) (by first | exact .inl rfl | exact .inr rfl))) (by decide) (fun s H C cl fp => dts_nil) (fun s H C cl fp => (dde (dr_f (Z.blk _ _ _ _ _) (ok_is_person T B) (by decide) (by rfl) (da_cons (dv 1) da_nil)))))) da_nil))))))))) (dss_one (ds_ret (ddr de_bl))) dss_nil) (dss_one (ds_ret (ddr (de_cmp (op_eqD Z.hu64) (dop_eq Z.K) (dde (dr_callB (g1_mono _) (bl_len Z.K) T.b_len Z.mg (by decide +kernel) (by rfl) (da_cons (dde (dr_dc (own := [("one", 1)]) rfl nd (di_walk (by exact Z.K) (dv 0)) (blkOk_by (N := N_are_people) (sc := defScope s_are_people) (by decide +kernel)) (fun s H C cl fp => (dg_name (by exact nd) (by rfl) (by first | exact .inl rfl | exact .inr rfl))) (by decide) (fun s H C cl fp => dts_nil) (fun s H C cl fp => (de_ix (ix_all Z.K Z.hu1) dop_ix (dv 1) de_int (fun _ _ => rfl))) (fun s H C cl fp => de_bl))) da_nil))) (dde (dr_callB (g1_mono _) (bl_len Z.K) T.b_len Z.mg (by decide +kernel) (by rfl) (da_cons (dv 0) da_nil))) (nomark _))))))⟩
abbrev N_is_meeting : List Str := ["names", "value"]
theorem sc_is_meeting : FnScope N_is_meeting ["names", "value"] (defScope s_is_meeting) := ⟨rfl, rfl, rfl, by decide +kernel, rfl, by decide +kernel, by decide +kernel⟩
theorem ok_is_meeting (T : Txt G ts C ed a_Plan___init__ fd_Plan___init__ a_Plan_further fd_Plan_further a_Plan_read fd_Plan_read q_Plan_read a_Plan_names fd_Plan_names q_Plan_names) (B : TbAll G base ts) : FnK P w G base 3 "is_meeting" ["names", "value"] sem_is_meeting := by
  obtain ⟨f, fd, hm, F⟩ := T.f_is_meeting
  have nd := sc_is_meeting.nd
  exact ⟨f, fd, hm, F.kp, F.binds (fun _ _ _ _ _ _ us hl => match us, hl with | [_, _], _ => rfl), fnd_ok F sc_is_meeting (by decide) fun cdv A outer s H E Z =>
    (dss_cons (ds_if (DW.dt (dw_or (dt_not (dt_val (dde (dr_callB (g2_mono _) (bl_isi Z.K) T.b_isinstance Z.mg (by decide +kernel) (by rfl) (da_cons (dv 1) (da_cons (dty Z (by rfl) T.b_tuple (by decide +kernel)) da_nil)))))) (dw_or (dt_cmp (op_neD Z.hu64) (dop_ne Z.K) (dde (dr_callB (g1_mono _) (bl_len Z.K) T.b_len Z.mg (by decide +kernel) (by rfl) (da_cons (dv 1) da_nil))) de_int (nomark _)) (dw_or1 (dt_not (dt_val (dde (dr_f Z (ok_is_number T B) (by decide) (by rfl) (da_cons (de_ix (ix_all Z.K Z.hu1) dop_ix (dv 1) de_int (fun _ _ => rfl)) da_nil))))))))) (dss_one (ds_ret (ddr de_bl))) dss_nil) (dss_cons (ds_if (DW.dt (dw_or (dt_not (dt_val (dde (dr_f Z (ok_is_name T B) (by decide) (by rfl) (da_cons (de_ix (ix_all Z.K Z.hu1) dop_ix (dv 1) de_int (fun _ _ => rfl)) da_nil))))) (dw_or (dt_not (dt_val (dde (dr_f Z (ok_is_name T B) (by decide) (by rfl) (da_cons (de_ix (ix_all Z.K Z.hu1) dop_ix (dv 1) de_int (fun _ _ => rfl)) da_nil))))) (dw_or1 (dt_cmp (op_eqD Z.hu64) (dop_eq Z.K) (de_ix (ix_all Z.K Z.hu1) dop_ix (dv 1) de_int (fun _ _ => rfl)) (de_ix (ix_all Z.K Z.hu1) dop_ix (dv 1) de_int (fun _ _ => rfl)) (nomark _)))))) (dss_one (ds_ret (ddr de_bl))) dss_nil) (dss_one (ds_ret (ddr (de_and (de_cmp (op_inAll Z.K Z.hu) dop_in (de_ix (ix_all Z.K Z.hu1) dop_ix (dv 1) de_int (fun _ _ => rfl)) (dv 0) (by with_unfolding_all rfl)) (de_one (de_cmp (op_inAll Z.K Z.hu) dop_in (de_ix (ix_all Z.K Z.hu1) dop_ix (dv 1) de_int (fun _ _ => rfl)) (dv 0) (by with_unfolding_all rfl)))))))))⟩
abbrev N_Plan___init__ : List Str := ["self", "people", "meetings", "known", "person", "one"]
theorem sc_Plan___init__ : FnScope N_Plan___init__ ["self", "people", "meetings"] (defScope s_Plan___init__) := ⟨rfl, rfl, rfl, by decide +kernel, rfl, by decide +kernel, by decide +kernel⟩
theorem bd_Plan___init__ (T : Txt G ts C ed a_Plan___init__ fd_Plan___init__ a_Plan_further fd_Plan_further a_Plan_read fd_Plan_read q_Plan_read a_Plan_names fd_Plan_names q_Plan_names) : Binds G.K fd_Plan___init__ ["self", "people", "meetings"] [] := T.f_Plan___init__.binds fun _ _ _ _ _ _ _ us its hl hi => match us, its, hl, hi with | [_, _, _], [_], _, _ => ⟨_, rfl, rfl⟩
theorem bd1_Plan___init__ (T : Txt G ts C ed a_Plan___init__ fd_Plan___init__ a_Plan_further fd_Plan_further a_Plan_read fd_Plan_read q_Plan_read a_Plan_names fd_Plan_names q_Plan_names) : Binds G.K fd_Plan___init__ ["self", "people", "meetings"] [.ref ed] := T.f_Plan___init__.binds1 fun _ _ _ _ _ _ _ us its hl hi => match us, its, hl, hi with | [_, _], [_], _, _ => ⟨_, rfl, rfl⟩
theorem ok_Plan___init__ (T : Txt G ts C ed a_Plan___init__ fd_Plan___init__ a_Plan_further fd_Plan_further a_Plan_read fd_Plan_read q_Plan_read a_Plan_names fd_Plan_names q_Plan_names) (B : TbAll G base ts) : FnI P w G base 6 a_Plan___init__ fd_Plan___init__ ["self", "people", "meetings"] C sem_Plan___init__ :=
  have nd := sc_Plan___init__.nd
  fni_ok T.f_Plan___init__ sc_Plan___init__ (by decide) fun cdv A outer s H E Z =>
    (dsi_cons (ds_if (dt_not (dt_val (dde (dr_f Z (ok_are_people T B) (by decide) (by rfl) (da_cons (dv 1) da_nil))))) (dss_one ds_no) dss_nil) (dsi_cons (ds_set [1] (dr_lc (own := [("person", 4)]) rfl nd (di_walk (by exact Z.K) (dv 1)) (blkOk_by (N := N_Plan___init__) (sc := defScope s_Plan___init__) (by decide +kernel)) (fun s H C cl fp => (dg_name (by exact nd) (by rfl) (by first | exact .inl rfl | exact .inr rfl))) (by decide) (fun s H C cl fp => dts_nil) (fun s H C cl fp => (de_ix (ix_all Z.K Z.hu1) dop_ix (dv 4) de_int (fun _ _ => rfl)))) nd rfl (by first | exact .inl rfl | exact .inr rfl)) (dsi_cons (ds_if (DW.dt (dw_or (dt_not (dt_val (dde (dr_f Z (ok_is_sequence T B) (by decide) (by rfl) (da_cons (dv 2) da_nil))))) (dw_or1 (dt_not (dt_val (dde (dr_callB (g1_mono _) (bl_all rfl) T.b_all Z.mg (by decide +kernel) (by rfl) (da_cons (dde (dr_lc (own := [("one", 5)]) rfl nd (di_walk (by exact Z.K) (dv 2)) (blkOk_by (N := N_Plan___init__) (sc := defScope s_Plan___init__) (by decide +kernel)) (fun s H C cl fp => (dg_name (by exact nd) (by rfl) (by first | exact .inl rfl | exact .inr rfl))) (by decide) (fun s H C cl fp => dts_nil) (fun s H C cl fp => (dde (dr_f (Z.blk _ _ _ _ _) (ok_is_meeting T B) (by decide) (by rfl) (da_cons (dv 3) (da_cons (dv 5) da_nil))))))) da_nil)))))))) (dss_one ds_no) dss_nil) (dsi_flds (dsf_cons Z.K T.k_Plan T.n_Plan_people (pv 0) (dde (dr_callTy (gTuple_mono) (bl_tuple Z.K) T.b_tuple Z.mg (by decide +kernel) (by rfl) (da_cons (dv 1) da_nil))) (dsf_cons Z.K T.k_Plan T.n_Plan_meetings (pv 0) (dde (dr_callTy (gTuple_mono) (bl_tuple Z.K) T.b_tuple Z.mg (by decide +kernel) (by rfl) (da_cons (dv 2) da_nil))) dsf_nil))))))
abbrev N_Plan_further : List Str := ["self", "meetings"]
theorem sc_Plan_further : FnScope N_Plan_further ["self", "meetings"] (defScope s_Plan_further) := ⟨rfl, rfl, rfl, by decide +kernel, rfl, by decide +kernel, by decide +kernel⟩
theorem bd_Plan_further (T : Txt G ts C ed a_Plan___init__ fd_Plan___init__ a_Plan_further fd_Plan_further a_Plan_read fd_Plan_read q_Plan_read a_Plan_names fd_Plan_names q_Plan_names) : Binds G.K fd_Plan_further ["self", "meetings"] [] := T.f_Plan_further.binds fun _ _ _ _ _ _ us hl => match us, hl with | [_, _], _ => rfl
theorem ok_Plan_further (T : Txt G ts C ed a_Plan___init__ fd_Plan___init__ a_Plan_further fd_Plan_further a_Plan_read fd_Plan_read q_Plan_read a_Plan_names fd_Plan_names q_Plan_names) (B : TbAll G base ts) : FnD P w G base 8 a_Plan_further fd_Plan_further ["self", "meetings"] sem_Plan_further :=
  have nd := sc_Plan_further.nd
  fnd_ok T.f_Plan_further sc_Plan_further (by decide) fun cdv A outer s H E Z =>
    (dss_cons (ds_if (dt_not (dt_val (dde (dr_f Z (ok_is_sequence T B) (by decide) (by rfl) (da_cons (dv 1) da_nil))))) (dss_one ds_no) dss_nil) (dss_one (ds_ret (dr_make (c := "Plan") (dvs := []) Z T.k_Plan.mg T.mk_Plan (ok_Plan___init__ T B) (by decide) (bd_Plan___init__ T) .nil (fun _ _ => rfl) (by rfl) (da_cons (de_fld Z.K T.k_Plan T.n_Plan_people (dv 0)) (da_cons (dde (dr_lst (da_star Z.K (de_fld Z.K T.k_Plan T.n_Plan_meetings (dv 0)) (da_star Z.K (dv 1) da_nil)))) da_nil))))))
abbrev N__law_mixed : List Str := ["_law_box", "_law_some", "_law_left", "_law_found", "_law_turn"]
theorem sc__law_mixed : FnScope N__law_mixed ["_law_box", "_law_some"] (defScope s__law_mixed) := ⟨rfl, rfl, rfl, by decide +kernel, rfl, by decide +kernel, by decide +kernel⟩
theorem ok__law_mixed (T : Txt G ts C ed a_Plan___init__ fd_Plan___init__ a_Plan_further fd_Plan_further a_Plan_read fd_Plan_read q_Plan_read a_Plan_names fd_Plan_names q_Plan_names) (B : TbAll G base ts) : FnK P w G base 2 "_law_mixed" ["_law_box", "_law_some"] sem__law_mixed := by
  obtain ⟨f, fd, hm, F⟩ := T.f__law_mixed
  have nd := sc__law_mixed.nd
  exact ⟨f, fd, hm, F.kp, F.binds (fun _ _ _ _ _ _ us hl => match us, hl with | [_, _], _ => rfl), fnd_ok F sc__law_mixed (by decide) fun cdv A outer s H E Z =>
    (dss_cons (ds_par2 rfl nd rfl rfl (by decide) rfl rfl (dps_cons 2 [1] (dr_callTy (gList_mono) (bl_list Z.K rfl) T.b_list Z.mg (by decide +kernel) (by rfl) (da_cons (dv 1) da_nil)) (dps_cons 3 [] (dr_lst da_nil) dps_nil)) (by rfl)) (dss_cons (ds_for [1] (passes_of rfl) rfl (di_rng1 Z.mg (by rfl) T.b_range (da_cons (dde (dr_callB (g1_mono _) (bl_len Z.K) T.b_len Z.mg (by decide +kernel) (by rfl) (da_cons (dv 1) da_nil))) da_nil)) (dg_name (by exact nd) (by rfl) (by first | exact .inl rfl | exact .inr rfl)) (dss_one (ds_appPop (pv 3) (pv 2) (dde (dr_f Z (ok__law_choose T B) (by decide) (by rfl) (da_cons (dv 0) (da_cons (dde (dr_callB (g1_mono _) (bl_len Z.K) T.b_len Z.mg (by decide +kernel) (by rfl) (da_cons (dv 2) da_nil))) da_nil))))))) (dss_one (ds_retv 3 (pv 3)))))⟩
abbrev N__law_one_of : List Str := ["_law_box", "_law_some"]
theorem sc__law_one_of : FnScope N__law_one_of ["_law_box", "_law_some"] (defScope s__law_one_of) := ⟨rfl, rfl, rfl, by decide +kernel, rfl, by decide +kernel, by decide +kernel⟩
theorem ok__law_one_of (T : Txt G ts C ed a_Plan___init__ fd_Plan___init__ a_Plan_further fd_Plan_further a_Plan_read fd_Plan_read q_Plan_read a_Plan_names fd_Plan_names q_Plan_names) (B : TbAll G base ts) : FnK P w G base 2 "_law_one_of" ["_law_box", "_law_some"] sem__law_one_of := by
  obtain ⟨f, fd, hm, F⟩ := T.f__law_one_of
  have nd := sc__law_one_of.nd
  exact ⟨f, fd, hm, F.kp, F.binds (fun _ _ _ _ _ _ us hl => match us, hl with | [_, _], _ => rfl), fnd_ok F sc__law_one_of (by decide) fun cdv A outer s H E Z =>
    (dss_one (ds_ret (ddr (de_ix (ix_all Z.K Z.hu1) dop_ix (dv 1) (dde (dr_f Z (ok__law_choose T B) (by decide) (by rfl) (da_cons (dv 0) (da_cons (dde (dr_callB (g1_mono _) (bl_len Z.K) T.b_len Z.mg (by decide +kernel) (by rfl) (da_cons (dv 1) da_nil))) da_nil)))) (fun _ _ => rfl)))))⟩
abbrev N__law_drawn : List Str := ["_law_box", "_law_many", "_law_bearers", "_law_meets", "_law_called", "_law_crowd", "_law_at", "_law_one", "_law_low", "_law_spot", "_law_found", "_law_turn", "_law_pair"]
theorem sc__law_drawn : FnScope N__law_drawn ["_law_box", "_law_many", "_law_bearers", "_law_meets"] (defScope s__law_drawn) := ⟨rfl, rfl, rfl, by decide +kernel, rfl, by decide +kernel, by decide +kernel⟩
theorem ok__law_drawn (T : Txt G ts C ed a_Plan___init__ fd_Plan___init__ a_Plan_further fd_Plan_further a_Plan_read fd_Plan_read q_Plan_read a_Plan_names fd_Plan_names q_Plan_names) (B : TbAll G base ts) : FnK P w G base 3 "_law_drawn" ["_law_box", "_law_many", "_law_bearers", "_law_meets"] sem__law_drawn := by
  obtain ⟨f, fd, hm, F⟩ := T.f__law_drawn
  have nd := sc__law_drawn.nd
  exact ⟨f, fd, hm, F.kp, F.binds (fun _ _ _ _ _ _ us hl => match us, hl with | [_, _, _, _], _ => rfl), fnd_ok F sc__law_drawn (by decide) fun cdv A outer s H E Z =>
    (dss_cons (ds_set [0, 1] (dr_slice Z.K (dde (dr_f Z (ok__law_mixed T B) (by decide) (by rfl) (da_cons (dv 0) (da_cons (dde (dr_lst (da_cons de_str (da_cons de_str (da_cons de_str (da_cons de_str (da_cons de_str (da_cons de_str (da_cons de_str da_nil))))))))) da_nil)))) do_none (do_some (dde (dr_op op_addAll (dop_add Z.K) de_int (dde (dr_f Z (ok__law_choose T B) (by decide) (by rfl) (da_cons (dv 0) (da_cons (de_op op_sub dop_sub (dv 1) de_int) da_nil)))))))) nd rfl (by first | exact .inl rfl | exact .inr rfl)) (dss_cons (ds_set [] (dr_lst da_nil) nd rfl (by first | exact .inl rfl | exact .inr rfl)) (dss_cons (ds_for [4] (passes_of rfl) rfl (di_enum Z.K Z.mg (by rfl) T.b_enumerate (da_cons (dv 4) da_nil)) (dg_tup (by exact Z.K) (by rfl) (dgs_cons (dg_name (by exact nd) (by rfl) (by first | exact .inl rfl | exact .inr rfl)) (dgs_cons (dg_name (by exact nd) (by rfl) (by first | exact .inl rfl | exact .inr rfl)) dgs_nil))) (dss_cons (ds_set [0] (dr_f Z (ok__law_choose T B) (by decide) (by rfl) (da_cons (dv 0) (da_cons de_int da_nil))) nd rfl (by first | exact .inl rfl | exact .inr rfl)) (dss_cons (ds_set [8, 6, 2, 0] (ddr (de_if (DW.dt (dw_and (dt_cmp op_lt dop_lt (dv 6) (dv 2) (nomark _)) (dw_and1 (dt_cmp op_gt dop_gt (dde (dr_f Z (ok__law_choose T B) (by decide) (by rfl) (da_cons (dv 0) (da_cons de_int da_nil)))) de_int (nomark _))))) (de_tup (da_cons (dv 8) (da_cons (dde (dr_op op_addAll (dop_add Z.K) (dv 8) (dde (dr_f Z (ok__law_choose T B) (by decide) (by rfl) (da_cons (dv 0) (da_cons de_int da_nil)))))) da_nil))) de_non)) nd rfl (by first | exact .inl rfl | exact .inr rfl)) (dss_one (ds_append [7, 9, 0] (pv 5) (de_tup (da_cons (dv 7) (da_cons (dde (dr_op op_addAll (dop_add Z.K) de_int (dde (dr_f Z (ok__law_one_of T B) (by decide) (by rfl) (da_cons (dv 0) (da_cons (dde (dr_lst (da_cons de_int (da_cons de_int (da_cons de_int (da_cons de_int da_nil)))))) da_nil)))))) (da_cons (dde (dr_f Z (ok__law_choose T B) (by decide) (by rfl) (da_cons (dv 0) (da_cons de_int da_nil)))) (da_cons (dv 9) da_nil)))))))))) (dss_cons (ds_set [] (dr_lst da_nil) nd rfl (by first | exact .inl rfl | exact .inr rfl)) (dss_cons (ds_for [0, 3] (passes_of rfl) rfl (di_rng1 Z.mg (by rfl) T.b_range (da_cons (dde (dr_f Z (ok__law_choose T B) (by decide) (by rfl) (da_cons (dv 0) (da_cons (dde (dr_op op_addAll (dop_add Z.K) (dv 3) de_int)) da_nil)))) da_nil)) (dg_name (by exact nd) (by rfl) (by first | exact .inl rfl | exact .inr rfl)) (dss_cons (ds_set [0, 4] (dr_slice Z.K (dde (dr_f Z (ok__law_mixed T B) (by decide) (by rfl) (da_cons (dv 0) (da_cons (dv 4) da_nil)))) do_none (do_some de_int)) nd rfl (by first | exact .inl rfl | exact .inr rfl)) (dss_one (ds_append [0, 12] (pv 10) (de_tup (da_cons (dde (dr_f Z (ok__law_choose T B) (by decide) (by rfl) (da_cons (dv 0) (da_cons de_int da_nil)))) (da_cons (de_ix (ix_all Z.K Z.hu1) dop_ix (dv 12) de_int (fun _ _ => rfl)) (da_cons (de_ix (ix_all Z.K Z.hu1) dop_ix (dv 12) de_int (fun _ _ => rfl)) da_nil)))))))) (dss_one (ds_ret (dr_lst (da_cons (dde (dr_f Z (ok__law_mixed T B) (by decide) (by rfl) (da_cons (dv 0) (da_cons (dv 5) da_nil)))) (da_cons (dv 10) da_nil))))))))))⟩
abbrev N__law_is_later : List Str := ["_law_one", "_law_other"]
theorem sc__law_is_later : FnScope N__law_is_later ["_law_one", "_law_other"] (defScope s__law_is_later) := ⟨rfl, rfl, rfl, by decide +kernel, rfl, by decide +kernel, by decide +kernel⟩
theorem ok__law_is_later (T : Txt G ts C ed a_Plan___init__ fd_Plan___init__ a_Plan_further fd_Plan_further a_Plan_read fd_Plan_read q_Plan_read a_Plan_names fd_Plan_names q_Plan_names) (B : TbAll G base ts) : FnK P w G base 1 "_law_is_later" ["_law_one", "_law_other"] sem__law_is_later := by
  obtain ⟨f, fd, hm, F⟩ := T.f__law_is_later
  have nd := sc__law_is_later.nd
  exact ⟨f, fd, hm, F.kp, F.binds (fun _ _ _ _ _ _ us hl => match us, hl with | [_, _], _ => rfl), fnd_ok F sc__law_is_later (by decide) fun cdv A outer s H E Z =>
    (dss_one (ds_ret (ddr (de_and (de_cmp op_notN dop_isnot (dv 1) de_non (nomark _)) (de_one (de_or (de_cmp op_isN dop_is (dv 0) de_non (nomark _)) (de_one (de_cmp op_gt dop_gt (dv 0) (dv 1) (nomark _)))))))))⟩
abbrev N__law_least : List Str := ["_law_one", "_law_other"]
theorem sc__law_least : FnScope N__law_least ["_law_one", "_law_other"] (defScope s__law_least) := ⟨rfl, rfl, rfl, by decide +kernel, rfl, by decide +kernel, by decide +kernel⟩
theorem ok__law_least (T : Txt G ts C ed a_Plan___init__ fd_Plan___init__ a_Plan_further fd_Plan_further a_Plan_read fd_Plan_read q_Plan_read a_Plan_names fd_Plan_names q_Plan_names) (B : TbAll G base ts) : FnK P w G base 1 "_law_least" ["_law_one", "_law_other"] sem__law_least := by
  obtain ⟨f, fd, hm, F⟩ := T.f__law_least
  have nd := sc__law_least.nd
  exact ⟨f, fd, hm, F.kp, F.binds (fun _ _ _ _ _ _ us hl => match us, hl with | [_, _], _ => rfl), fnd_ok F sc__law_least (by decide) fun cdv A outer s H E Z =>
    (dss_cons (ds_if (DW.dt (dw_or (dt_cmp op_isN dop_is (dv 0) de_non (nomark _)) (dw_or1 (dt_cmp op_isN dop_is (dv 1) de_non (nomark _))))) (dss_one (ds_ret (ddr (de_if (dt_cmp op_isN dop_is (dv 0) de_non (nomark _)) (dv 1) (dv 0))))) dss_nil) (dss_one (ds_ret (ddr (de_if (dt_cmp op_lt dop_lt (dv 0) (dv 1) (nomark _)) (dv 0) (dv 1))))))⟩
abbrev N_number_in : List Str := ["word", "sign"]
theorem sc_number_in : FnScope N_number_in ["word"] (defScope s_number_in) := ⟨rfl, rfl, rfl, by decide +kernel, rfl, by decide +kernel, by decide +kernel⟩
theorem ok_number_in (T : Txt G ts C ed a_Plan___init__ fd_Plan___init__ a_Plan_further fd_Plan_further a_Plan_read fd_Plan_read q_Plan_read a_Plan_names fd_Plan_names q_Plan_names) (B : TbAll G base ts) : FnK P w G base 1 "number_in" ["word"] sem_number_in := by
  obtain ⟨f, fd, hm, F⟩ := T.f_number_in
  have nd := sc_number_in.nd
  exact ⟨f, fd, hm, F.kp, F.binds (fun _ _ _ _ _ _ us hl => match us, hl with | [_], _ => rfl), fnd_ok F sc_number_in (by decide) fun cdv A outer s H E Z =>
    (dss_cons (ds_if (DW.dt (dw_or (dt_not (dt_chain op_le op_le dop_le dop_le de_int (dde (dr_callB (g1_mono _) (bl_len Z.K) T.b_len Z.mg (by decide +kernel) (by rfl) (da_cons (dv 0) da_nil))) (dgi Z (by rfl) T.c_MOST_SIGNS.choose_spec))) (dw_or1 (dt_not (dt_val (dde (dr_callB (g1_mono _) (bl_all rfl) T.b_all Z.mg (by decide +kernel) (by rfl) (da_cons (dde (dr_lc (own := [("sign", 1)]) rfl nd (di_walk (by exact Z.K) (dv 0)) (blkOk_by (N := N_number_in) (sc := defScope s_number_in) (by decide +kernel)) (fun s H C cl fp => (dg_name (by exact nd) (by rfl) (by first | exact .inl rfl | exact .inr rfl))) (by decide) (fun s H C cl fp => dts_nil) (fun s H C cl fp => (de_cmp (op_inAll Z.K Z.hu) dop_in (dv 1) (dgs (Z.blk _ _ _ _ _) (by rfl) T.c_SIGNS.choose_spec) (by with_unfolding_all rfl))))) da_nil)))))))) (dss_one (ds_ret (ddr de_non))) dss_nil) (dss_one (ds_ret (dr_if (DW.dt (dw_and (dt_cmp (op_eqD Z.hu64) (dop_eq Z.K) (de_ix (ix_all Z.K Z.hu1) dop_ix (dv 0) de_int (fun _ _ => rfl)) de_str (nomark _)) (dw_and1 (dt_cmp op_gt dop_gt (dde (dr_callB (g1_mono _) (bl_len Z.K) T.b_len Z.mg (by decide +kernel) (by rfl) (da_cons (dv 0) da_nil))) de_int (nomark _))))) (ddr de_non) (dr_callTy (g1_mono _) (bl_int) T.b_int Z.mg (by decide +kernel) (by rfl) (da_cons (dv 0) da_nil))))))⟩
abbrev N_meeting_in : List Str := ["words", "day"]
theorem sc_meeting_in : FnScope N_meeting_in ["words"] (defScope s_meeting_in) := ⟨rfl, rfl, rfl, by decide +kernel, rfl, by decide +kernel, by decide +kernel⟩
theorem ok_meeting_in (T : Txt G ts C ed a_Plan___init__ fd_Plan___init__ a_Plan_further fd_Plan_further a_Plan_read fd_Plan_read q_Plan_read a_Plan_names fd_Plan_names q_Plan_names) (B : TbAll G base ts) : FnK P w G base 2 "meeting_in" ["words"] sem_meeting_in := by
  obtain ⟨f, fd, hm, F⟩ := T.f_meeting_in
  have nd := sc_meeting_in.nd
  exact ⟨f, fd, hm, F.kp, F.binds (fun _ _ _ _ _ _ us hl => match us, hl with | [_], _ => rfl), fnd_ok F sc_meeting_in (by decide) fun cdv A outer s H E Z =>
    (dss_cons (ds_if (DW.dt (dw_or (dt_cmp (op_neD Z.hu64) (dop_ne Z.K) (dde (dr_callB (g1_mono _) (bl_len Z.K) T.b_len Z.mg (by decide +kernel) (by rfl) (da_cons (dv 0) da_nil))) de_int (nomark _)) (dw_or (dt_cmp (op_neD Z.hu64) (dop_ne Z.K) (de_ix (ix_all Z.K Z.hu1) dop_ix (dv 0) de_int (fun _ _ => rfl)) de_str (nomark _)) (dw_or (dt_not (dt_val (dde (dr_f Z (ok_is_name T B) (by decide) (by rfl) (da_cons (de_ix (ix_all Z.K Z.hu1) dop_ix (dv 0) de_int (fun _ _ => rfl)) da_nil))))) (dw_or1 (dt_not (dt_val (dde (dr_f Z (ok_is_name T B) (by decide) (by rfl) (da_cons (de_ix (ix_all Z.K Z.hu1) dop_ix (dv 0) de_int (fun _ _ => rfl)) da_nil)))))))))) (dss_one (ds_ret (ddr de_non))) dss_nil) (dss_cons (ds_set [0] (dr_f Z (ok_number_in T B) (by decide) (by rfl) (da_cons (de_ix (ix_all Z.K Z.hu1) dop_ix (dv 0) de_int (fun _ _ => rfl)) da_nil)) nd rfl (by first | exact .inl rfl | exact .inr rfl)) (dss_one (ds_ret (ddr (de_if (dt_cmp op_notN dop_isnot (dv 1) de_non (nomark _)) (de_tup (da_cons (dv 1) (da_cons (de_ix (ix_all Z.K Z.hu1) dop_ix (dv 0) de_int (fun _ _ => rfl)) (da_cons (de_ix (ix_all Z.K Z.hu1) dop_ix (dv 0) de_int (fun _ _ => rfl)) da_nil)))) de_non))))))⟩
abbrev N_person_in : List Str := ["words", "numbers", "word"]
theorem sc_person_in : FnScope N_person_in ["words"] (defScope s_person_in) := ⟨rfl, rfl, rfl, by decide +kernel, rfl, by decide +kernel, by decide +kernel⟩
theorem ok_person_in (T : Txt G ts C ed a_Plan___init__ fd_Plan___init__ a_Plan_further fd_Plan_further a_Plan_read fd_Plan_read q_Plan_read a_Plan_names fd_Plan_names q_Plan_names) (B : TbAll G base ts) : FnK P w G base 2 "person_in" ["words"] sem_person_in := by
  obtain ⟨f, fd, hm, F⟩ := T.f_person_in
  have nd := sc_person_in.nd
  exact ⟨f, fd, hm, F.kp, F.binds (fun _ _ _ _ _ _ us hl => match us, hl with | [_], _ => rfl), fnd_ok F sc_person_in (by decide) fun cdv A outer s H E Z =>
    (dss_cons (ds_if (DW.dt (dw_or (dt_cmp (op_notInAll Z.K Z.hu) dop_in (dde (dr_callB (g1_mono _) (bl_len Z.K) T.b_len Z.mg (by decide +kernel) (by rfl) (da_cons (dv 0) da_nil))) (de_tup (da_cons de_int (da_cons de_int da_nil))) (by with_unfolding_all rfl)) (dw_or (dt_cmp (op_neD Z.hu64) (dop_ne Z.K) (de_ix (ix_all Z.K Z.hu1) dop_ix (dv 0) de_int (fun _ _ => rfl)) de_str (nomark _)) (dw_or1 (dt_not (dt_val (dde (dr_f Z (ok_is_name T B) (by decide) (by rfl) (da_cons (de_ix (ix_all Z.K Z.hu1) dop_ix (dv 0) de_int (fun _ _ => rfl)) da_nil))))))))) (dss_one (ds_ret (ddr de_non))) dss_nil) (dss_cons (ds_setLc (own := [("word", 2)]) (i := 1) [0] rfl rfl (sw_true rfl rfl rfl (by decide +kernel)) rfl nd (di_walk (by exact Z.K) (dde (dr_slice Z.K (dv 0) (do_some de_int) do_none))) (blkOk_by (N := N_person_in) (sc := defScope s_person_in) (by decide +kernel)) (fun s H C cl fp => (dg_name (by exact nd) (by rfl) (by first | exact .inl rfl | exact .inr rfl))) (by decide) (fun s H C cl fp => dts_nil) (fun s H C cl fp => (dde (dr_f (Z.blk _ _ _ _ _) (ok_number_in T B) (by decide) (by rfl) (da_cons (dv 2) da_nil))))) (dss_cons (ds_if (dt_cmp (op_eqD Z.hu64) (dop_eq Z.K) (dde (dr_slice Z.K (dv 0) (do_some de_int) do_none)) (dde (dr_lst (da_cons de_str da_nil))) (nomark _)) (dss_one (ds_ret (ddr (de_if (dt_cmp (op_notInAll Z.K Z.hu) dop_in de_non (dde (dr_slice Z.K (dv 1) do_none (do_some de_int))) (by with_unfolding_all rfl)) (de_tup (da_cons (de_ix (ix_all Z.K Z.hu1) dop_ix (dv 0) de_int (fun _ _ => rfl)) (da_cons (de_ix (ix_all Z.K Z.hu1) dop_ix (dv 1) de_int (fun _ _ => rfl)) (da_cons (de_ix (ix_all Z.K Z.hu1) dop_ix (dv 1) de_int (fun _ _ => rfl)) (da_cons de_non da_nil))))) de_non)))) dss_nil) (dss_cons (ds_if (DW.dt (dw_or (dt_cmp (op_inAll Z.K Z.hu) dop_in de_non (dv 1) (by with_unfolding_all rfl)) (dw_or1 (dt_cmp (op_eqD Z.hu64) (dop_eq Z.K) (dde (dr_callB (g1_mono _) (bl_len Z.K) T.b_len Z.mg (by decide +kernel) (by rfl) (da_cons (dv 0) da_nil))) de_int (nomark _))))) (dss_one (ds_ret (ddr de_non))) dss_nil) (dss_one (ds_ret (ddr (de_tup (da_cons (de_ix (ix_all Z.K Z.hu1) dop_ix (dv 0) de_int (fun _ _ => rfl)) (da_cons (de_ix (ix_all Z.K Z.hu1) dop_ix (dv 1) de_int (fun _ _ => rfl)) (da_cons (de_ix (ix_all Z.K Z.hu1) dop_ix (dv 1) de_int (fun _ _ => rfl)) (da_cons (de_tup (da_cons (de_ix (ix_all Z.K Z.hu1) dop_ix (dv 1) de_int (fun _ _ => rfl)) (da_cons (de_ix (ix_all Z.K Z.hu1) dop_ix (dv 1) de_int (fun _ _ => rfl)) da_nil))) da_nil))))))))))))⟩
abbrev N_Plan_read : List Str := ["cls", "text", "people", "meetings", "at", "line", "words", "person", "meeting"]
theorem sc_Plan_read : FnScope N_Plan_read ["cls", "text"] (defScope s_Plan_read) := ⟨rfl, rfl, rfl, by decide +kernel, rfl, by decide +kernel, by decide +kernel⟩
theorem bd_Plan_read (T : Txt G ts C ed a_Plan___init__ fd_Plan___init__ a_Plan_further fd_Plan_further a_Plan_read fd_Plan_read q_Plan_read a_Plan_names fd_Plan_names q_Plan_names) : Binds G.K fd_Plan_read ["cls", "text"] [] := T.f_Plan_read.binds fun _ _ _ _ _ _ us hl => match us, hl with | [_, _], _ => rfl
theorem ok_Plan_read (T : Txt G ts C ed a_Plan___init__ fd_Plan___init__ a_Plan_further fd_Plan_further a_Plan_read fd_Plan_read q_Plan_read a_Plan_names fd_Plan_names q_Plan_names) (B : TbAll G base ts) : FnD P w G base 8 a_Plan_read fd_Plan_read ["cls", "text"] sem_Plan_read :=
  have nd := sc_Plan_read.nd
  fnd_ok T.f_Plan_read sc_Plan_read (by decide) fun cdv A outer s H E Z =>
    (dss_cons (ds_par2 rfl nd rfl rfl (by decide) rfl rfl (dps_cons 2 [] (dr_lst da_nil) (dps_cons 3 [] (dr_lst da_nil) dps_nil)) (by rfl)) (dss_cons (ds_for [1] (passes_of rfl) rfl (di_enum Z.K Z.mg (by rfl) T.b_enumerate (da_cons (dde (dr_split (dv 1) de_str)) da_nil)) (dg_tup (by exact Z.K) (by rfl) (dgs_cons (dg_name (by exact nd) (by rfl) (by first | exact .inl rfl | exact .inr rfl)) (dgs_cons (dg_name (by exact nd) (by rfl) (by first | exact .inl rfl | exact .inr rfl)) dgs_nil))) (dss_cons (ds_set [5] (dr_split (dv 5) de_str) nd rfl (by first | exact .inl rfl | exact .inr rfl)) (dss_cons (ds_par2 rfl nd rfl rfl (by decide) rfl rfl (dps_cons 7 [6] (dr_f Z (ok_person_in T B) (by decide) (by rfl) (da_cons (dv 6) da_nil)) (dps_cons 8 [6] (dr_f Z (ok_meeting_in T B) (by decide) (by rfl) (da_cons (dv 6) da_nil)) dps_nil)) (by rfl)) (dss_one (ds_if (DW.dt (dw_and (dt_cmp op_notN dop_isnot (dv 7) de_non (nomark _)) (dw_and1 (dt_cmp (op_eqD Z.hu64) (dop_eq Z.K) (dde (dr_callB (g1_mono _) (bl_len Z.K) T.b_len Z.mg (by decide +kernel) (by rfl) (da_cons (dv 3) da_nil))) de_int (nomark _))))) (dss_one (ds_append [7] (pv 2) (dv 7))) (dss_one (ds_if (dt_cmp op_notN dop_isnot (dv 8) de_non (nomark _)) (dss_one (ds_append [8] (pv 3) (dv 8))) (dss_one ds_no)))))))) (dss_one (ds_ret (dr_makeV (c := "Plan") (i := 0) (dvs := []) Z T.k_Plan.mg T.mk_Plan (ok_Plan___init__ T B) (by decide) (bd_Plan___init__ T) .nil (fun _ _ => rfl) (dv 0) (da_cons (dv 2) (da_cons (dv 3) da_nil)))))))
abbrev N__law_text : List Str := ["_law_told", "_law_lines", "_law_one", "_law_late", "_law_seen", "_law_spot", "_law_ends", "_law_on", "_law_other"]
theorem sc__law_text : FnScope N__law_text ["_law_told"] (defScope s__law_text) := ⟨rfl, rfl, rfl, by decide +kernel, rfl, by decide +kernel, by decide +kernel⟩
theorem ok__law_text (T : Txt G ts C ed a_Plan___init__ fd_Plan___init__ a_Plan_further fd_Plan_further a_Plan_read fd_Plan_read q_Plan_read a_Plan_names fd_Plan_names q_Plan_names) (B : TbAll G base ts) : FnK P w G base 1 "_law_text" ["_law_told"] sem__law_text := by
  obtain ⟨f, fd, hm, F⟩ := T.f__law_text
  have nd := sc__law_text.nd
  exact ⟨f, fd, hm, F.kp, F.binds (fun _ _ _ _ _ _ us hl => match us, hl with | [_], _ => rfl), fnd_ok F sc__law_text (by decide) fun cdv A outer s H E Z =>
    (dss_cons (ds_set [] (dr_lst da_nil) nd rfl (by first | exact .inl rfl | exact .inr rfl)) (dss_cons (ds_for [0] (passes_of rfl) rfl (di_walk (by exact Z.K) (de_ix (ix_all Z.K Z.hu1) dop_ix (dv 0) de_int (fun _ _ => rfl))) (dg_tup (by exact Z.K) (by rfl) (dgs_cons (dg_name (by exact nd) (by rfl) (by first | exact .inl rfl | exact .inr rfl)) (dgs_cons (dg_name (by exact nd) (by rfl) (by first | exact .inl rfl | exact .inr rfl)) (dgs_cons (dg_name (by exact nd) (by rfl) (by first | exact .inl rfl | exact .inr rfl)) (dgs_cons (dg_name (by exact nd) (by rfl) (by first | exact .inl rfl | exact .inr rfl)) dgs_nil))))) (dss_cons (ds_set [5] (dr_if (dt_cmp op_isN dop_is (dv 5) de_non (nomark _)) (ddr de_str) (dr_op op_addAll (dop_add Z.K) (dde (dr_op op_addAll (dop_add Z.K) (dde (dr_callTy (g1_mono _) (bl_str) T.b_str Z.mg (by decide +kernel) (by rfl) (da_cons (de_ix (ix_all Z.K Z.hu1) dop_ix (dv 5) de_int (fun _ _ => rfl)) da_nil))) de_str)) (dde (dr_callTy (g1_mono _) (bl_str) T.b_str Z.mg (by decide +kernel) (by rfl) (da_cons (de_ix (ix_all Z.K Z.hu1) dop_ix (dv 5) de_int (fun _ _ => rfl)) da_nil))))) nd rfl (by first | exact .inl rfl | exact .inr rfl)) (dss_one (ds_append [2, 6, 3, 4] (pv 1) (de_join Z.K de_str (dde (dr_lst (da_cons de_str (da_cons (dv 2) (da_cons (dde (dr_callTy (g1_mono _) (bl_str) T.b_str Z.mg (by decide +kernel) (by rfl) (da_cons (dv 3) da_nil))) (da_cons (dde (dr_callTy (g1_mono _) (bl_str) T.b_str Z.mg (by decide +kernel) (by rfl) (da_cons (dv 4) da_nil))) (da_cons (dv 6) da_nil)))))))))))) (dss_one (ds_ret (ddr (de_join Z.K de_str (dde (dr_op op_addAll (dop_add Z.K) (dv 1) (dde (dr_lc (own := [("_law_on", 7), ("_law_one", 2), ("_law_other", 8)]) rfl nd (di_walk (by exact Z.K) (de_ix (ix_all Z.K Z.hu1) dop_ix (dv 0) de_int (fun _ _ => rfl))) (blkOk_by (N := N__law_text) (sc := defScope s__law_text) (by decide +kernel)) (fun s H C cl fp => (dg_tup (by exact Z.K) (by rfl) (dgs_cons (dg_name (by exact nd) (by rfl) (by first | exact .inl rfl | exact .inr rfl)) (dgs_cons (dg_name (by exact nd) (by rfl) (by first | exact .inl rfl | exact .inr rfl)) (dgs_cons (dg_name (by exact nd) (by rfl) (by first | exact .inl rfl | exact .inr rfl)) dgs_nil))))) (by decide) (fun s H C cl fp => dts_nil) (fun s H C cl fp => (de_join Z.K de_str (dde (dr_lst (da_cons de_str (da_cons (dde (dr_callTy (g1_mono _) (bl_str) T.b_str Z.mg (by decide +kernel) (by rfl) (da_cons (dv 7) da_nil))) (da_cons (dv 2) (da_cons (dv 8) da_nil))))))))))))))))))⟩
abbrev N__law_made : List Str := ["_law_told"]
theorem sc__law_made : FnScope N__law_made ["_law_told"] (defScope s__law_made) := ⟨rfl, rfl, rfl, by decide +kernel, rfl, by decide +kernel, by decide +kernel⟩
theorem ok__law_made (T : Txt G ts C ed a_Plan___init__ fd_Plan___init__ a_Plan_further fd_Plan_further a_Plan_read fd_Plan_read q_Plan_read a_Plan_names fd_Plan_names q_Plan_names) (B : TbAll G base ts) : FnK P w G base 9 "_law_made" ["_law_told"] sem__law_made := by
  obtain ⟨f, fd, hm, F⟩ := T.f__law_made
  have nd := sc__law_made.nd
  exact ⟨f, fd, hm, F.kp, F.binds (fun _ _ _ _ _ _ us hl => match us, hl with | [_], _ => rfl), fnd_ok F sc__law_made (by decide) fun cdv A outer s H E Z =>
    (dss_one (ds_ret (dr_cmeth (dvs := []) Z T.k_Plan.mg T.cr_Plan T.cm_Plan_read (ok_Plan_read T B) (by decide) (bd_Plan_read T) .nil (fun _ _ => rfl) (dcl Z (by rfl) T.k_Plan.mg) (da_cons (dde (dr_f Z (ok__law_text T B) (by decide) (by rfl) (da_cons (dv 0) da_nil))) da_nil))))⟩
abbrev N__law_seed : List Str := ["_law_script", "_law_k", "_law_cell", "_law_great"]
theorem sc__law_seed : FnScope N__law_seed ["_law_script", "_law_k"] (defScope s__law_seed) := ⟨rfl, rfl, rfl, by decide +kernel, rfl, by decide +kernel, by decide +kernel⟩
theorem ok__law_seed0 (T : Txt G ts C ed a_Plan___init__ fd_Plan___init__ a_Plan_further fd_Plan_further a_Plan_read fd_Plan_read q_Plan_read a_Plan_names fd_Plan_names q_Plan_names) (B : TbAll G base ts) : FnK P w G base 1 "_law_seed" ["_law_script", "_law_k"] sem__law_seed0 := by
  obtain ⟨f, fd, hm, F⟩ := T.f__law_seed
  have nd := sc__law_seed.nd
  exact ⟨f, fd, hm, F.kp, F.binds (fun _ _ _ _ _ _ us hl => match us, hl with | [_, _], _ => rfl), fnd_ok F sc__law_seed (by decide) fun cdv A outer s H E Z =>
    (dss_cons (ds_set [1] (dr_op op_addAll (dop_add Z.K) (de_op op_mul dop_mul de_int (dv 1)) de_int) nd rfl (by first | exact .inl rfl | exact .inr rfl)) (dss_cons (ds_if (dt_cmp op_lt dop_lt (dv 1) (dde (dr_callB (g1_mono _) (bl_len Z.K) T.b_len Z.mg (by decide +kernel) (by rfl) (da_cons (dv 0) da_nil))) (nomark _)) (dss_one (ds_set [0, 1] (dr_callB (g1_mono _) (bl_abs) T.b_abs Z.mg (by decide +kernel) (by rfl) (da_cons (de_ix ix_list (dop_ixScr Z.K) (dv 0) (dv 1) (fun _ _ => rfl)) da_nil)) nd rfl (by first | exact .inl rfl | exact .inr rfl))) (dss_one (ds_if (dt_cmp op_gt dop_gt (dde (dr_callB (g1_mono _) (bl_len Z.K) T.b_len Z.mg (by decide +kernel) (by rfl) (da_cons (dv 0) da_nil))) de_int (nomark _)) (dss_one (ds_set [2, 0, 1] (dr_op op_addAll (dop_add Z.K) (dv 2) (de_op op_mul dop_mul (de_op op_mod dop_mod (dde (dr_callTy (g1_mono _) (bl_int) T.b_int Z.mg (by decide +kernel) (by rfl) (da_cons (dde (dr_callB (g1_mono _) (bl_abs) T.b_abs Z.mg (by decide +kernel) (by rfl) (da_cons (de_ix ix_list (dop_ixScr Z.K) (dv 0) (de_op op_mod dop_mod (dde (dr_callTy (g1_mono _) (bl_int) T.b_int Z.mg (by decide +kernel) (by rfl) (da_cons (dv 1) da_nil))) (dde (dr_callB (g1_mono _) (bl_len Z.K) T.b_len Z.mg (by decide +kernel) (by rfl) (da_cons (dv 0) da_nil)))) (fun _ _ => rfl)) da_nil))) da_nil))) de_int) de_int)) nd rfl (by first | exact .inl rfl | exact .inr rfl))) dss_nil))) (dss_cons (ds_set [2] (ddr (de_if (dt_cmp op_ge dop_ge (dv 2) (de_op op_pow dop_pow de_int de_int) (nomark _)) (dv 2) de_int)) nd rfl (by first | exact .inl rfl | exact .inr rfl)) (dss_one (ds_ret (dr_lst (da_cons (dv 3) (da_cons (dde (dr_op op_addAll (dop_add Z.K) (de_op op_mod dop_mod (dde (dr_callTy (g1_mono _) (bl_int) T.b_int Z.mg (by decide +kernel) (by rfl) (da_cons (dde (dr_op op_addAll (dop_add Z.K) (de_op op_mul dop_mul (de_op op_mod dop_mod (dde (dr_callTy (g1_mono _) (bl_int) T.b_int Z.mg (by decide +kernel) (by rfl) (da_cons (dv 2) da_nil))) de_int) de_int) (de_op op_mul dop_mul de_int (dv 1)))) da_nil))) de_int) de_int)) da_nil))))))))⟩
theorem ok__law_seed (T : Txt G ts C ed a_Plan___init__ fd_Plan___init__ a_Plan_further fd_Plan_further a_Plan_read fd_Plan_read q_Plan_read a_Plan_names fd_Plan_names q_Plan_names) (B : TbAll G base ts) : FnK P w G base 1 "_law_seed" ["_law_script", "_law_k"] sem__law_seed := box_ofC (ok__law_seed0 T B) seed_sem
abbrev N__law_worlds : List Str := ["_law_told", "_law_found", "_law_one", "_law_late", "_law_seen", "_law_spot", "_law_wider", "_law_today", "_law_world"]
theorem sc__law_worlds : FnScope N__law_worlds ["_law_told"] (defScope s__law_worlds) := ⟨rfl, rfl, rfl, by decide +kernel, rfl, by decide +kernel, by decide +kernel⟩
theorem ok__law_worlds (T : Txt G ts C ed a_Plan___init__ fd_Plan___init__ a_Plan_further fd_Plan_further a_Plan_read fd_Plan_read q_Plan_read a_Plan_names fd_Plan_names q_Plan_names) (B : TbAll G base ts) : FnK P w G base 1 "_law_worlds" ["_law_told"] sem__law_worlds := by
  obtain ⟨f, fd, hm, F⟩ := T.f__law_worlds
  have nd := sc__law_worlds.nd
  exact ⟨f, fd, hm, F.kp, F.binds (fun _ _ _ _ _ _ us hl => match us, hl with | [_], _ => rfl), fnd_ok F sc__law_worlds (by decide) fun cdv A outer s H E Z =>
    (dss_cons (ds_set [] (dr_lst (da_cons (dde dr_dic0) da_nil)) nd rfl (by first | exact .inl rfl | exact .inr rfl)) (dss_cons (ds_for [0] (passes_of rfl) rfl (di_walk (by exact Z.K) (de_ix (ix_all Z.K Z.hu1) dop_ix (dv 0) de_int (fun _ _ => rfl))) (dg_tup (by exact Z.K) (by rfl) (dgs_cons (dg_name (by exact nd) (by rfl) (by first | exact .inl rfl | exact .inr rfl)) (dgs_cons (dg_name (by exact nd) (by rfl) (by first | exact .inl rfl | exact .inr rfl)) (dgs_cons (dg_name (by exact nd) (by rfl) (by first | exact .inl rfl | exact .inr rfl)) (dgs_cons (dg_name (by exact nd) (by rfl) (by first | exact .inl rfl | exact .inr rfl)) dgs_nil))))) (dss_cons (ds_set [1] (dr_callTy (gList_mono) (bl_list Z.K rfl) T.b_list Z.mg (by decide +kernel) (by rfl) (da_cons (dv 1) da_nil)) nd rfl (by first | exact .inl rfl | exact .inr rfl)) (dss_cons (ds_for [5] (passes_of rfl) rfl (di_walk (by exact Z.K) (dde (dr_if (dt_cmp op_notN dop_isnot (dv 5) de_non (nomark _)) (dr_listRg2 rfl Z.mg (by rfl) T.b_list (by rfl) T.b_range (de_ix (ix_all Z.K Z.hu1) dop_ix (dv 5) de_int (fun _ _ => rfl)) (dde (dr_op op_addAll (dop_add Z.K) (de_ix (ix_all Z.K Z.hu1) dop_ix (dv 5) de_int (fun _ _ => rfl)) de_int))) (dr_lst da_nil)))) (dg_name (by exact nd) (by rfl) (by first | exact .inl rfl | exact .inr rfl)) (dss_one (ds_extend [1, 2, 7] (pv 6) (dde (dr_lc (own := [("_law_world", 8)]) rfl nd (di_walk (by exact Z.K) (dv 1)) (blkOk_by (N := N__law_worlds) (sc := defScope s__law_worlds) (by decide +kernel)) (fun s H C cl fp => (dg_name (by exact nd) (by rfl) (by first | exact .inl rfl | exact .inr rfl))) (by decide) (fun s H C cl fp => dts_nil) (fun s H C cl fp => (dde (dr_callTy (gDictP_mono) (bl_dictP rfl Z.K) T.b_dict Z.mg (by decide +kernel) (by rfl) (da_cons (dde (dr_op op_addAll (dop_add Z.K) (dde (dr_listItems rfl Z.mg (by rfl) T.b_list (dv 8))) (dde (dr_lst (da_cons (de_tup (da_cons (dv 2) (da_cons (dv 7) da_nil))) da_nil))))) da_nil))))))))) (dss_one (ds_set [6] (ddr (dv 6)) nd rfl (by first | exact .inl rfl | exact .inr rfl)))))) (dss_one (ds_retv 1 (pv 1)))))⟩
abbrev N_Plan_names : List Str := ["self", "person"]
theorem sc_Plan_names : FnScope N_Plan_names ["self"] (defScope s_Plan_names) := ⟨rfl, rfl, rfl, by decide +kernel, rfl, by decide +kernel, by decide +kernel⟩
theorem bd_Plan_names (T : Txt G ts C ed a_Plan___init__ fd_Plan___init__ a_Plan_further fd_Plan_further a_Plan_read fd_Plan_read q_Plan_read a_Plan_names fd_Plan_names q_Plan_names) : Binds G.K fd_Plan_names ["self"] [] := T.f_Plan_names.binds fun _ _ _ _ _ _ us hl => match us, hl with | [_], _ => rfl
theorem ok_Plan_names (T : Txt G ts C ed a_Plan___init__ fd_Plan___init__ a_Plan_further fd_Plan_further a_Plan_read fd_Plan_read q_Plan_read a_Plan_names fd_Plan_names q_Plan_names) (B : TbAll G base ts) : FnD P w G base 1 a_Plan_names fd_Plan_names ["self"] sem_Plan_names :=
  have nd := sc_Plan_names.nd
  fnd_ok T.f_Plan_names sc_Plan_names (by decide) fun cdv A outer s H E Z =>
    (dss_one (ds_ret (dr_callTy (gTuple_mono) (bl_tuple Z.K) T.b_tuple Z.mg (by decide +kernel) (by rfl) (da_cons (dde (dr_lc (own := [("person", 1)]) rfl nd (di_walk (by exact Z.K) (de_fld Z.K T.k_Plan T.n_Plan_people (dv 0))) (blkOk_by (N := N_Plan_names) (sc := defScope s_Plan_names) (by decide +kernel)) (fun s H C cl fp => (dg_name (by exact nd) (by rfl) (by first | exact .inl rfl | exact .inr rfl))) (by decide) (fun s H C cl fp => dts_nil) (fun s H C cl fp => (de_ix (ix_all Z.K Z.hu1) dop_ix (dv 1) de_int (fun _ _ => rfl))))) da_nil))))
abbrev N_passed : List Str := ["giver", "wait", "day", "taker"]
theorem sc_passed : FnScope N_passed ["giver", "wait", "day", "taker"] (defScope s_passed) := ⟨rfl, rfl, rfl, by decide +kernel, rfl, by decide +kernel, by decide +kernel⟩
theorem ok_passed (T : Txt G ts C ed a_Plan___init__ fd_Plan___init__ a_Plan_further fd_Plan_further a_Plan_read fd_Plan_read q_Plan_read a_Plan_names fd_Plan_names q_Plan_names) (B : TbAll G base ts) : FnK P w G base 1 "passed" ["giver", "wait", "day", "taker"] sem_passed := by
  obtain ⟨f, fd, hm, F⟩ := T.f_passed
  have nd := sc_passed.nd
  exact ⟨f, fd, hm, F.kp, F.binds (fun _ _ _ _ _ _ us hl => match us, hl with | [_, _, _, _], _ => rfl), fnd_ok F sc_passed (by decide) fun cdv A outer s H E Z =>
    (dss_cons (ds_if (DW.dt (dw_or (dt_cmp op_isN dop_is (dv 0) de_non (nomark _)) (dw_or1 (dt_cmp op_gt dop_gt (dde (dr_op op_addAll (dop_add Z.K) (dv 0) (dv 1))) (dv 2) (nomark _))))) (dss_one (ds_retv 3 (pv 3))) dss_nil) (dss_one (ds_ret (dr_if (dt_cmp op_isN dop_is (dv 3) de_non (nomark _)) (ddr (dv 2)) (dr_callB (gMM_mono _) (bl_min rfl) T.b_min Z.mg (by decide +kernel) (by rfl) (da_cons (dde (dr_callTy (g1_mono _) (bl_int) T.b_int Z.mg (by decide +kernel) (by rfl) (da_cons (dv 2) da_nil))) (da_cons (dde (dr_callTy (g1_mono _) (bl_int) T.b_int Z.mg (by decide +kernel) (by rfl) (da_cons (dv 3) da_nil))) da_nil)))))))⟩
abbrev N_days_by : List Str := ["plan", "firsts", "found", "waits", "day", "one", "other", "ahead", "name", "person"]
theorem sc_days_by : FnScope N_days_by ["plan", "firsts"] (defScope s_days_by) := ⟨rfl, rfl, rfl, by decide +kernel, rfl, by decide +kernel, by decide +kernel⟩
theorem ok_days_by (T : Txt G ts C ed a_Plan___init__ fd_Plan___init__ a_Plan_further fd_Plan_further a_Plan_read fd_Plan_read q_Plan_read a_Plan_names fd_Plan_names q_Plan_names) (B : TbAll G base ts) : FnK P w G base 3 "days_by" ["plan", "firsts"] sem_days_by := by
  obtain ⟨f, fd, hm, F⟩ := T.f_days_by
  have nd := sc_days_by.nd
  exact ⟨f, fd, hm, F.kp, F.binds (fun _ _ _ _ _ _ us hl => match us, hl with | [_, _], _ => rfl), fnd_ok F sc_days_by (by decide) fun cdv A outer s H E Z =>
    (dss_cons (ds_setDc (own := [("name", 8)]) (i := 2) [1, 0] rfl rfl (sw_trueD rfl rfl rfl (by decide +kernel)) rfl nd (di_walk (by exact Z.K) (dde (dr_prop Z T.k_Plan T.p_Plan_names (ok_Plan_names T B) (by decide) (bd_Plan_names T) rfl (dv 0)))) (blkOk_by (N := N_days_by) (sc := defScope s_days_by) (by decide +kernel)) (fun s H C cl fp => (dg_name (by exact nd) (by rfl) (by first | exact .inl rfl | exact .inr rfl))) (by decide) (fun s H C cl fp => dts_nil) (fun s H C cl fp => (dv 8)) (fun s H C cl fp => (de_get1 Z.hu (dv 1) (dv 8) ⟨rfl, rfl, rfl, rfl⟩))) (dss_cons (ds_setDc (own := [("person", 9)]) (i := 3) [0] rfl rfl (sw_trueD rfl rfl rfl (by decide +kernel)) rfl nd (di_walk (by exact Z.K) (de_fld Z.K T.k_Plan T.n_Plan_people (dv 0))) (blkOk_by (N := N_days_by) (sc := defScope s_days_by) (by decide +kernel)) (fun s H C cl fp => (dg_name (by exact nd) (by rfl) (by first | exact .inl rfl | exact .inr rfl))) (by decide) (fun s H C cl fp => dts_nil) (fun s H C cl fp => (de_ix (ix_all Z.K Z.hu1) dop_ix (dv 9) de_int (fun _ _ => rfl))) (fun s H C cl fp => (de_ix (ix_all Z.K Z.hu1) dop_ix (dv 9) de_int (fun _ _ => rfl)))) (dss_cons (ds_for [0] (passes_of rfl) rfl (di_walk (by exact Z.K) (dde (dr_callB (gSorted_mono) (bl_sorted Z.K Z.hu) T.b_sorted Z.mg (by decide +kernel) (by rfl) (da_cons (de_fld Z.K T.k_Plan T.n_Plan_meetings (dv 0)) da_nil)))) (dg_tup (by exact Z.K) (by rfl) (dgs_cons (dg_name (by exact nd) (by rfl) (by first | exact .inl rfl | exact .inr rfl)) (dgs_cons (dg_name (by exact nd) (by rfl) (by first | exact .inl rfl | exact .inr rfl)) (dgs_cons (dg_name (by exact nd) (by rfl) (by first | exact .inl rfl | exact .inr rfl)) dgs_nil)))) (dss_cons (ds_set [2, 5, 6] (ddr (de_tup (da_cons (de_ix (ix_all Z.K Z.hu1) dop_ix (dv 2) (dv 5) (fun _ _ => rfl)) (da_cons (de_ix (ix_all Z.K Z.hu1) dop_ix (dv 2) (dv 6) (fun _ _ => rfl)) da_nil)))) nd rfl (by first | exact .inl rfl | exact .inr rfl)) (dss_cons (ds_dput [4, 7, 3, 5] Z.hu (pv 2) (dv 6) (dde (dr_f Z (ok_passed T B) (by decide) (by rfl) (da_cons (de_ix (ix_all Z.K Z.hu1) dop_ix (dv 7) de_int (fun _ _ => rfl)) (da_cons (de_ix (ix_all Z.K Z.hu1) dop_ix (dv 3) (dv 5) (fun _ _ => rfl)) (da_cons (dv 4) (da_cons (de_ix (ix_all Z.K Z.hu1) dop_ix (dv 7) de_int (fun _ _ => rfl)) da_nil))))))) (dss_one (ds_dput [4, 7, 3, 6] Z.hu (pv 2) (dv 5) (dde (dr_f Z (ok_passed T B) (by decide) (by rfl) (da_cons (de_ix (ix_all Z.K Z.hu1) dop_ix (dv 7) de_int (fun _ _ => rfl)) (da_cons (de_ix (ix_all Z.K Z.hu1) dop_ix (dv 3) (dv 6) (fun _ _ => rfl)) (da_cons (dv 4) (da_cons (de_ix (ix_all Z.K Z.hu1) dop_ix (dv 7) de_int (fun _ _ => rfl)) da_nil))))))))))) (dss_one (ds_retv 2 (pv 2))))))⟩
abbrev N_lot_by : List Str := ["plan", "found", "part", "day", "some", "person", "begun", "name"]
theorem sc_lot_by : FnScope N_lot_by ["plan", "found", "part", "day"] (defScope s_lot_by) := ⟨rfl, rfl, rfl, by decide +kernel, rfl, by decide +kernel, by decide +kernel⟩
theorem ok_lot_by (T : Txt G ts C ed a_Plan___init__ fd_Plan___init__ a_Plan_further fd_Plan_further a_Plan_read fd_Plan_read q_Plan_read a_Plan_names fd_Plan_names q_Plan_names) (B : TbAll G base ts) : FnK P w G base 1 "lot_by" ["plan", "found", "part", "day"] sem_lot_by := by
  obtain ⟨f, fd, hm, F⟩ := T.f_lot_by
  have nd := sc_lot_by.nd
  exact ⟨f, fd, hm, F.kp, F.binds (fun _ _ _ _ _ _ us hl => match us, hl with | [_, _, _, _], _ => rfl), fnd_ok F sc_lot_by (by decide) fun cdv A outer s H E Z =>
    (dss_cons (ds_set [] (dr_lst da_nil) nd rfl (by first | exact .inl rfl | exact .inr rfl)) (dss_cons (ds_for [0] (passes_of rfl) rfl (di_walk (by exact Z.K) (de_fld Z.K T.k_Plan T.n_Plan_people (dv 0))) (dg_name (by exact nd) (by rfl) (by first | exact .inl rfl | exact .inr rfl)) (dss_cons (ds_set [1, 5] (ddr (de_ix (ix_all Z.K Z.hu1) dop_ix (dv 1) (de_ix (ix_all Z.K Z.hu1) dop_ix (dv 5) de_int (fun _ _ => rfl)) (fun _ _ => rfl))) nd rfl (by first | exact .inl rfl | exact .inr rfl)) (dss_one (ds_if (DW.dt (dw_and (dt_cmp op_notN dop_isnot (dv 6) de_non (nomark _)) (dw_and1 (dt_cmp op_le dop_le (dde (dr_op op_addAll (dop_add Z.K) (dv 6) (de_ix (ix_all Z.K Z.hu1) dop_ix (dv 5) (dv 2) (fun _ _ => rfl)))) (dv 3) (nomark _))))) (dss_one (ds_append [5] (pv 4) (de_ix (ix_all Z.K Z.hu1) dop_ix (dv 5) de_int (fun _ _ => rfl)))) dss_nil)))) (dss_one (ds_ret (dr_callTy (gTuple_mono) (bl_tuple Z.K) T.b_tuple Z.mg (by decide +kernel) (by rfl) (da_cons (dde (dr_callB (gSorted_mono) (bl_sorted Z.K Z.hu) T.b_sorted Z.mg (by decide +kernel) (by rfl) (da_cons (dde (dr_lc (own := [("name", 7)]) rfl nd (di_walk (by exact Z.K) (dv 4)) (blkOk_by (N := N_lot_by) (sc := defScope s_lot_by) (by decide +kernel)) (fun s H C cl fp => (dg_name (by exact nd) (by rfl) (by first | exact .inl rfl | exact .inr rfl))) (by decide) (fun s H C cl fp => dts_nil) (fun s H C cl fp => (dde (dr_callTy (g1_mono _) (bl_str) T.b_str Z.mg (by decide +kernel) (by rfl) (da_cons (dv 7) da_nil)))))) da_nil))) da_nil))))))⟩
abbrev N_is_first_one : List Str := ["spans", "value"]
theorem sc_is_first_one : FnScope N_is_first_one ["spans", "value"] (defScope s_is_first_one) := ⟨rfl, rfl, rfl, by decide +kernel, rfl, by decide +kernel, by decide +kernel⟩
theorem ok_is_first_one (T : Txt G ts C ed a_Plan___init__ fd_Plan___init__ a_Plan_further fd_Plan_further a_Plan_read fd_Plan_read q_Plan_read a_Plan_names fd_Plan_names q_Plan_names) (B : TbAll G base ts) : FnK P w G base 3 "is_first_one" ["spans", "value"] sem_is_first_one := by
  obtain ⟨f, fd, hm, F⟩ := T.f_is_first_one
  have nd := sc_is_first_one.nd
  exact ⟨f, fd, hm, F.kp, F.binds (fun _ _ _ _ _ _ us hl => match us, hl with | [_, _], _ => rfl), fnd_ok F sc_is_first_one (by decide) fun cdv A outer s H E Z =>
    (dss_cons (ds_if (DW.dt (dw_or (dt_not (dt_val (dde (dr_callB (g2_mono _) (bl_isi Z.K) T.b_isinstance Z.mg (by decide +kernel) (by rfl) (da_cons (dv 1) (da_cons (dty Z (by rfl) T.b_tuple (by decide +kernel)) da_nil)))))) (dw_or (dt_cmp (op_neD Z.hu64) (dop_ne Z.K) (dde (dr_callB (g1_mono _) (bl_len Z.K) T.b_len Z.mg (by decide +kernel) (by rfl) (da_cons (dv 1) da_nil))) de_int (nomark _)) (dw_or1 (dt_not (dt_val (dde (dr_callB (g2_mono _) (bl_isi Z.K) T.b_isinstance Z.mg (by decide +kernel) (by rfl) (da_cons (de_ix (ix_all Z.K Z.hu1) dop_ix (dv 1) de_int (fun _ _ => rfl)) (da_cons (dty Z (by rfl) T.b_str (by decide +kernel)) da_nil)))))))))) (dss_one (ds_ret (ddr de_bl))) dss_nil) (dss_cons (ds_if (DW.dt (dw_or (dt_cmp (op_notInAll Z.K Z.hu) dop_in (de_ix (ix_all Z.K Z.hu1) dop_ix (dv 1) de_int (fun _ _ => rfl)) (dv 0) (by with_unfolding_all rfl)) (dw_or1 (dt_not (dt_val (dde (dr_f Z (ok_is_number T B) (by decide) (by rfl) (da_cons (de_ix (ix_all Z.K Z.hu1) dop_ix (dv 1) de_int (fun _ _ => rfl)) da_nil)))))))) (dss_one (ds_ret (ddr de_bl))) dss_nil) (dss_one (ds_ret (ddr (de_chain op_le op_le dop_le dop_le (de_ix (ix_all Z.K Z.hu1) dop_ix (de_ix (ix_all Z.K Z.hu1) dop_ix (dv 0) (de_ix (ix_all Z.K Z.hu1) dop_ix (dv 1) de_int (fun _ _ => rfl)) (fun _ _ => rfl)) de_int (fun _ _ => rfl)) (de_ix (ix_all Z.K Z.hu1) dop_ix (dv 1) de_int (fun _ _ => rfl)) (de_ix (ix_all Z.K Z.hu1) dop_ix (de_ix (ix_all Z.K Z.hu1) dop_ix (dv 0) (de_ix (ix_all Z.K Z.hu1) dop_ix (dv 1) de_int (fun _ _ => rfl)) (fun _ _ => rfl)) de_int (fun _ _ => rfl))))))))⟩
abbrev N_spans_of : List Str := ["plan", "person"]
theorem sc_spans_of : FnScope N_spans_of ["plan"] (defScope s_spans_of) := ⟨rfl, rfl, rfl, by decide +kernel, rfl, by decide +kernel, by decide +kernel⟩
theorem ok_spans_of (T : Txt G ts C ed a_Plan___init__ fd_Plan___init__ a_Plan_further fd_Plan_further a_Plan_read fd_Plan_read q_Plan_read a_Plan_names fd_Plan_names q_Plan_names) (B : TbAll G base ts) : FnK P w G base 1 "spans_of" ["plan"] sem_spans_of := by
  obtain ⟨f, fd, hm, F⟩ := T.f_spans_of
  have nd := sc_spans_of.nd
  exact ⟨f, fd, hm, F.kp, F.binds (fun _ _ _ _ _ _ us hl => match us, hl with | [_], _ => rfl), fnd_ok F sc_spans_of (by decide) fun cdv A outer s H E Z =>
    (dss_one (ds_ret (dr_dc (own := [("person", 1)]) rfl nd (di_walk (by exact Z.K) (de_fld Z.K T.k_Plan T.n_Plan_people (dv 0))) (blkOk_by (N := N_spans_of) (sc := defScope s_spans_of) (by decide +kernel)) (fun s H C cl fp => (dg_name (by exact nd) (by rfl) (by first | exact .inl rfl | exact .inr rfl))) (by decide) (fun s H C cl fp => (dts_one (dt_cmp op_notN dop_isnot (de_ix (ix_all Z.K Z.hu1) dop_ix (dv 1) de_int (fun _ _ => rfl)) de_non (nomark _)))) (fun s H C cl fp => (de_ix (ix_all Z.K Z.hu1) dop_ix (dv 1) de_int (fun _ _ => rfl))) (fun s H C cl fp => (de_ix (ix_all Z.K Z.hu1) dop_ix (dv 1) de_int (fun _ _ => rfl))))))⟩
abbrev N_need_world : List Str := ["plan", "world", "spans", "found", "at", "value"]
theorem sc_need_world : FnScope N_need_world ["plan", "world"] (defScope s_need_world) := ⟨rfl, rfl, rfl, by decide +kernel, rfl, by decide +kernel, by decide +kernel⟩
theorem ok_need_world (T : Txt G ts C ed a_Plan___init__ fd_Plan___init__ a_Plan_further fd_Plan_further a_Plan_read fd_Plan_read q_Plan_read a_Plan_names fd_Plan_names q_Plan_names) (B : TbAll G base ts) : FnK P w G base 4 "need_world" ["plan", "world"] sem_need_world := by
  obtain ⟨f, fd, hm, F⟩ := T.f_need_world
  have nd := sc_need_world.nd
  exact ⟨f, fd, hm, F.kp, F.binds (fun _ _ _ _ _ _ us hl => match us, hl with | [_, _], _ => rfl), fnd_ok F sc_need_world (by decide) fun cdv A outer s H E Z =>
    (dss_cons (ds_if (dt_not (dt_val (dde (dr_f Z (ok_is_sequence T B) (by decide) (by rfl) (da_cons (dv 1) da_nil))))) (dss_one ds_no) dss_nil) (dss_cons (ds_par2 rfl nd rfl rfl (by decide) rfl rfl (dps_cons 2 [0] (dr_f Z (ok_spans_of T B) (by decide) (by rfl) (da_cons (dv 0) da_nil)) (dps_cons 3 [] dr_dic0 dps_nil)) (by rfl)) (dss_cons (ds_for [1] (passes_of rfl) rfl (di_enum Z.K Z.mg (by rfl) T.b_enumerate (da_cons (dv 1) da_nil)) (dg_tup (by exact Z.K) (by rfl) (dgs_cons (dg_name (by exact nd) (by rfl) (by first | exact .inl rfl | exact .inr rfl)) (dgs_cons (dg_name (by exact nd) (by rfl) (by first | exact .inl rfl | exact .inr rfl)) dgs_nil))) (dss_cons (ds_if (DW.dt (dw_or (dt_not (dt_val (dde (dr_f Z (ok_is_first_one T B) (by decide) (by rfl) (da_cons (dv 2) (da_cons (dv 5) da_nil)))))) (dw_or1 (dt_cmp (op_inAll Z.K Z.hu) dop_in (de_ix (ix_all Z.K Z.hu1) dop_ix (dv 5) de_int (fun _ _ => rfl)) (dv 3) (by with_unfolding_all rfl))))) (dss_one ds_no) dss_nil) (dss_one (ds_dput [5] Z.hu (pv 3) (de_ix (ix_all Z.K Z.hu1) dop_ix (dv 5) de_int (fun _ _ => rfl)) (de_ix (ix_all Z.K Z.hu1) dop_ix (dv 5) de_int (fun _ _ => rfl)))))) (dss_one (ds_retv 3 (pv 3))))))⟩
abbrev N_able : List Str := ["plan", "world", "day"]
theorem sc_able : FnScope N_able ["plan", "world", "day"] (defScope s_able) := ⟨rfl, rfl, rfl, by decide +kernel, rfl, by decide +kernel, by decide +kernel⟩
theorem ok_able (T : Txt G ts C ed a_Plan___init__ fd_Plan___init__ a_Plan_further fd_Plan_further a_Plan_read fd_Plan_read q_Plan_read a_Plan_names fd_Plan_names q_Plan_names) (B : TbAll G base ts) : FnK P w G base 5 "able" ["plan", "world", "day"] sem_able := by
  obtain ⟨f, fd, hm, F⟩ := T.f_able
  have nd := sc_able.nd
  exact ⟨f, fd, hm, F.kp, F.binds (fun _ _ _ _ _ _ us hl => match us, hl with | [_, _, _], _ => rfl), fnd_ok F sc_able (by decide) fun cdv A outer s H E Z =>
    (dss_one (ds_ret (dr_f Z (ok_lot_by T B) (by decide) (by rfl) (da_cons (dv 0) (da_cons (dde (dr_f Z (ok_days_by T B) (by decide) (by rfl) (da_cons (dv 0) (da_cons (dde (dr_f Z (ok_need_world T B) (by decide) (by rfl) (da_cons (dv 0) (da_cons (dv 1) da_nil)))) da_nil)))) (da_cons de_int (da_cons (dv 2) da_nil)))))))⟩
abbrev N_shows : List Str := ["plan", "world", "day"]
theorem sc_shows : FnScope N_shows ["plan", "world", "day"] (defScope s_shows) := ⟨rfl, rfl, rfl, by decide +kernel, rfl, by decide +kernel, by decide +kernel⟩
theorem ok_shows (T : Txt G ts C ed a_Plan___init__ fd_Plan___init__ a_Plan_further fd_Plan_further a_Plan_read fd_Plan_read q_Plan_read a_Plan_names fd_Plan_names q_Plan_names) (B : TbAll G base ts) : FnK P w G base 5 "shows" ["plan", "world", "day"] sem_shows := by
  obtain ⟨f, fd, hm, F⟩ := T.f_shows
  have nd := sc_shows.nd
  exact ⟨f, fd, hm, F.kp, F.binds (fun _ _ _ _ _ _ us hl => match us, hl with | [_, _, _], _ => rfl), fnd_ok F sc_shows (by decide) fun cdv A outer s H E Z =>
    (dss_one (ds_ret (dr_f Z (ok_lot_by T B) (by decide) (by rfl) (da_cons (dv 0) (da_cons (dde (dr_f Z (ok_days_by T B) (by decide) (by rfl) (da_cons (dv 0) (da_cons (dde (dr_f Z (ok_need_world T B) (by decide) (by rfl) (da_cons (dv 0) (da_cons (dv 1) da_nil)))) da_nil)))) (da_cons de_int (da_cons (dv 2) da_nil)))))))⟩
abbrev N_since : List Str := ["plan", "world", "found", "name"]
theorem sc_since : FnScope N_since ["plan", "world"] (defScope s_since) := ⟨rfl, rfl, rfl, by decide +kernel, rfl, by decide +kernel, by decide +kernel⟩
theorem ok_since (T : Txt G ts C ed a_Plan___init__ fd_Plan___init__ a_Plan_further fd_Plan_further a_Plan_read fd_Plan_read q_Plan_read a_Plan_names fd_Plan_names q_Plan_names) (B : TbAll G base ts) : FnK P w G base 5 "since" ["plan", "world"] sem_since := by
  obtain ⟨f, fd, hm, F⟩ := T.f_since
  have nd := sc_since.nd
  exact ⟨f, fd, hm, F.kp, F.binds (fun _ _ _ _ _ _ us hl => match us, hl with | [_, _], _ => rfl), fnd_ok F sc_since (by decide) fun cdv A outer s H E Z =>
    (dss_cons (ds_set [0, 1] (dr_f Z (ok_days_by T B) (by decide) (by rfl) (da_cons (dv 0) (da_cons (dde (dr_f Z (ok_need_world T B) (by decide) (by rfl) (da_cons (dv 0) (da_cons (dv 1) da_nil)))) da_nil))) nd rfl (by first | exact .inl rfl | exact .inr rfl)) (dss_one (ds_ret (dr_callTy (gTuple_mono) (bl_tuple Z.K) T.b_tuple Z.mg (by decide +kernel) (by rfl) (da_cons (dde (dr_lc (own := [("name", 3)]) rfl nd (di_walk (by exact Z.K) (dde (dr_prop Z T.k_Plan T.p_Plan_names (ok_Plan_names T B) (by decide) (bd_Plan_names T) rfl (dv 0)))) (blkOk_by (N := N_since) (sc := defScope s_since) (by decide +kernel)) (fun s H C cl fp => (dg_name (by exact nd) (by rfl) (by first | exact .inl rfl | exact .inr rfl))) (by decide) (fun s H C cl fp => dts_nil) (fun s H C cl fp => (de_ix (ix_all Z.K Z.hu1) dop_ix (dv 2) (dv 3) (fun _ _ => rfl))))) da_nil)))))⟩
abbrev N_law : List Str := ["_law_script", "_law_k", "_law_box", "_law_turn", "_law_told", "_law_made_here", "_law_every", "_law_one", "_law_other", "_law_both", "_law_pairs", "_law_here", "_law_there", "_law_ends", "_law_slow", "_law_later", "_law_on", "_law_pair", "_law_wide", "_law_who", "_law_left", "_law_right", "_law_late", "_law_seen", "_law_spot"]
theorem sc_law : FnScope N_law ["_law_script"] (defScope s_law) := ⟨rfl, rfl, rfl, by decide +kernel, rfl, by decide +kernel, by decide +kernel⟩
theorem ok_law (T : Txt G ts C ed a_Plan___init__ fd_Plan___init__ a_Plan_further fd_Plan_further a_Plan_read fd_Plan_read q_Plan_read a_Plan_names fd_Plan_names q_Plan_names) (B : TbAll G base ts) {f : Addr} {fd : FuncData} (F : Fun G.K "law" "law" s_law f fd) : FnD P w G base 10 f fd ["_law_script"] sem_law :=
  have nd := sc_law.nd
  fnd_ok F sc_law (by decide) fun cdv A outer s H E Z =>
    (dss_cons (ds_for [0] (passes_of rfl) rfl (di_rng1 Z.mg (by rfl) T.b_range (da_cons (dde (dr_callB (gMM_mono _) (bl_max rfl) T.b_max Z.mg (by decide +kernel) (by rfl) (da_cons de_int (da_cons (dde (dr_callB (gMM_mono _) (bl_min rfl) T.b_min Z.mg (by decide +kernel) (by rfl) (da_cons de_int (da_cons (dde (dr_callB (g1_mono _) (bl_len Z.K) T.b_len Z.mg (by decide +kernel) (by rfl) (da_cons (dv 0) da_nil))) da_nil)))) da_nil)))) da_nil)) (dg_name (by exact nd) (by rfl) (by first | exact .inl rfl | exact .inr rfl)) (dss_cons (ds_set [0, 1] (dr_f Z (ok__law_seed T B) (by decide) (by rfl) (da_cons (dv 0) (da_cons (dv 1) da_nil))) nd rfl (by first | exact .inl rfl | exact .inr rfl)) (dss_one (ds_for [] (passes_of rfl) rfl (di_rng1 Z.mg (by rfl) T.b_range (da_cons de_int da_nil)) (dg_name (by exact nd) (by rfl) (by first | exact .inl rfl | exact .inr rfl)) (dss_cons (ds_set [2] (dr_f Z (ok__law_drawn T B) (by decide) (by rfl) (da_cons (dv 2) (da_cons de_int (da_cons de_int (da_cons de_int da_nil))))) nd rfl (by first | exact .inl rfl | exact .inr rfl)) (dss_cons (ds_parT rfl (dps_cons 5 [4] (dr_f Z (ok__law_made T B) (by decide) (by rfl) (da_cons (dv 4) da_nil)) (dps_cons 6 [4] (dr_f Z (ok__law_worlds T B) (by decide) (by rfl) (da_cons (dv 4) da_nil)) dps_nil)) (ng_cons nd rfl (by first | exact .inl rfl | exact .inr rfl) (ng_cons nd rfl (by first | exact .inl rfl | exact .inr rfl) ng_nil)) (by decide)) (dss_cons (ds_parT rfl (dps_cons 7 [2, 6] (dr_f Z (ok__law_one_of T B) (by decide) (by rfl) (da_cons (dv 2) (da_cons (dv 6) da_nil))) (dps_cons 8 [2, 6] (dr_f Z (ok__law_one_of T B) (by decide) (by rfl) (da_cons (dv 2) (da_cons (dv 6) da_nil))) dps_nil)) (ng_cons nd rfl (by first | exact .inl rfl | exact .inr rfl) (ng_cons nd rfl (by first | exact .inl rfl | exact .inr rfl) ng_nil)) (by decide)) (dss_cons (ds_set [7, 8] (dr_callTy (gDictP_mono) (bl_dictP rfl Z.K) T.b_dict Z.mg (by decide +kernel) (by rfl) (da_cons (dde (dr_lc (own := [("_law_who", 19)]) rfl nd (di_walk (by exact Z.K) (dde (dr_op op_addAll (dop_add Z.K) (dde (dr_callTy (gList_mono) (bl_list Z.K rfl) T.b_list Z.mg (by decide +kernel) (by rfl) (da_cons (dv 7) da_nil))) (dde (dr_callTy (gList_mono) (bl_list Z.K rfl) T.b_list Z.mg (by decide +kernel) (by rfl) (da_cons (dv 8) da_nil)))))) (blkOk_by (N := N_law) (sc := defScope s_law) (by decide +kernel)) (fun s H C cl fp => (dg_name (by exact nd) (by rfl) (by first | exact .inl rfl | exact .inr rfl))) (by decide) (fun s H C cl fp => dts_nil) (fun s H C cl fp => (de_tup (da_cons (dv 19) (da_cons (dde (dr_f (Z.blk _ _ _ _ _) (ok__law_least T B) (by decide) (by rfl) (da_cons (de_get1 Z.hu (dv 7) (dv 19) ⟨rfl, rfl, rfl, rfl⟩) (da_cons (de_get1 Z.hu (dv 8) (dv 19) ⟨rfl, rfl, rfl, rfl⟩) da_nil)))) da_nil)))))) da_nil)) nd rfl (by first | exact .inl rfl | exact .inr rfl)) (dss_cons (ds_set [7] (dr_listItems rfl Z.mg (by rfl) T.b_list (dv 7)) nd rfl (by first | exact .inl rfl | exact .inr rfl)) (dss_cons (ds_par2 rfl nd rfl rfl (by decide) rfl rfl (dps_cons 11 [5, 10] (dr_f Z (ok_since T B) (by decide) (by rfl) (da_cons (dv 5) (da_cons (dv 10) da_nil))) (dps_cons 12 [5, 8] (dr_f Z (ok_since T B) (by decide) (by rfl) (da_cons (dv 5) (da_cons (dde (dr_listItems rfl Z.mg (by rfl) T.b_list (dv 8))) da_nil))) dps_nil)) (by rfl)) (dss_cons (ds_if (dt_cmp (op_neD Z.hu64) (dop_ne Z.K) (dde (dr_f Z (ok_since T B) (by decide) (by rfl) (da_cons (dv 5) (da_cons (dde (dr_listItems rfl Z.mg (by rfl) T.b_list (dv 9))) da_nil)))) (dde (dr_callTy (gTuple_mono) (bl_tuple Z.K) T.b_tuple Z.mg (by decide +kernel) (by rfl) (da_cons (dde (dr_lc (own := [("_law_left", 20), ("_law_right", 21)]) rfl nd (di_zip Z.K Z.mg (by rfl) T.b_zip (da_cons (dv 11) (da_cons (dv 12) da_nil))) (blkOk_by (N := N_law) (sc := defScope s_law) (by decide +kernel)) (fun s H C cl fp => (dg_tup (by exact Z.K) (by rfl) (dgs_cons (dg_name (by exact nd) (by rfl) (by first | exact .inl rfl | exact .inr rfl)) (dgs_cons (dg_name (by exact nd) (by rfl) (by first | exact .inl rfl | exact .inr rfl)) dgs_nil)))) (by decide) (fun s H C cl fp => dts_nil) (fun s H C cl fp => (dde (dr_f (Z.blk _ _ _ _ _) (ok__law_least T B) (by decide) (by rfl) (da_cons (dv 20) (da_cons (dv 21) da_nil))))))) da_nil))) (nomark _)) (dss_one (ds_ret (ddr de_bl))) dss_nil) (dss_cons (ds_set [4] (dr_callTy (gDictP_mono) (bl_dictP rfl Z.K) T.b_dict Z.mg (by decide +kernel) (by rfl) (da_cons (dde (dr_lc (own := [("_law_who", 19), ("_law_late", 22), ("_law_seen", 23), ("_law_spot", 24)]) rfl nd (di_walk (by exact Z.K) (de_ix (ix_all Z.K Z.hu1) dop_ix (dv 4) de_int (fun _ _ => rfl))) (blkOk_by (N := N_law) (sc := defScope s_law) (by decide +kernel)) (fun s H C cl fp => (dg_tup (by exact Z.K) (by rfl) (dgs_cons (dg_name (by exact nd) (by rfl) (by first | exact .inl rfl | exact .inr rfl)) (dgs_cons (dg_name (by exact nd) (by rfl) (by first | exact .inl rfl | exact .inr rfl)) (dgs_cons (dg_name (by exact nd) (by rfl) (by first | exact .inl rfl | exact .inr rfl)) (dgs_cons (dg_name (by exact nd) (by rfl) (by first | exact .inl rfl | exact .inr rfl)) dgs_nil)))))) (by decide) (fun s H C cl fp => (dts_one (dt_cmp op_notN dop_isnot (dv 24) de_non (nomark _)))) (fun s H C cl fp => (de_tup (da_cons (dv 19) (da_cons (dv 24) da_nil)))))) da_nil)) nd rfl (by first | exact .inl rfl | exact .inr rfl)) (dss_cons (ds_set [16, 7, 13] (dr_callTy (gDictP_mono) (bl_dictP rfl Z.K) T.b_dict Z.mg (by decide +kernel) (by rfl) (da_cons (dde (dr_lcK (own := [("_law_who", 19), ("_law_on", 16)]) rfl nd (pv 7) rfl rfl (blkOk_by (N := N_law) (sc := defScope s_law) (by decide +kernel)) (fun s H C cl fp => (dg_tup (by exact Z.K) (by rfl) (dgs_cons (dg_name (by exact nd) (by rfl) (by first | exact .inl rfl | exact .inr rfl)) (dgs_cons (dg_name (by exact nd) (by rfl) (by first | exact .inl rfl | exact .inr rfl)) dgs_nil)))) (by decide) (fun s H C cl fp => dts_nil) (fun s H C cl fp => (de_tup (da_cons (dv 19) (da_cons (dde (dr_callB (gMM_mono _) (bl_min rfl) T.b_min Z.mg (by decide +kernel) (by rfl) (da_cons (dde (dr_callTy (g1_mono _) (bl_int) T.b_int Z.mg (by decide +kernel) (by rfl) (da_cons (de_ix (ix_all Z.K Z.hu1) dop_ix (de_ix (ix_all Z.K Z.hu1) dop_ix (dv 13) (dv 19) (fun _ _ => rfl)) de_int (fun _ _ => rfl)) da_nil))) (da_cons (dde (dr_callTy (g1_mono _) (bl_int) T.b_int Z.mg (by decide +kernel) (by rfl) (da_cons (dde (dr_op op_addAll (dop_add Z.K) (dv 16) de_int)) da_nil))) da_nil)))) da_nil)))))) da_nil)) nd rfl (by first | exact .inl rfl | exact .inr rfl)) (dss_cons (ds_set [5, 14] (dr_f Z (ok_since T B) (by decide) (by rfl) (da_cons (dv 5) (da_cons (dde (dr_listItems rfl Z.mg (by rfl) T.b_list (dv 14))) da_nil))) nd rfl (by first | exact .inl rfl | exact .inr rfl)) (dss_cons (ds_if (dt_cmp (op_neD Z.hu64) (dop_ne Z.K) (dde (dr_lc (own := [("_law_left", 20), ("_law_right", 21)]) rfl nd (di_zip Z.K Z.mg (by rfl) T.b_zip (da_cons (dv 15) (da_cons (dv 11) da_nil))) (blkOk_by (N := N_law) (sc := defScope s_law) (by decide +kernel)) (fun s H C cl fp => (dg_tup (by exact Z.K) (by rfl) (dgs_cons (dg_name (by exact nd) (by rfl) (by first | exact .inl rfl | exact .inr rfl)) (dgs_cons (dg_name (by exact nd) (by rfl) (by first | exact .inl rfl | exact .inr rfl)) dgs_nil)))) (by decide) (fun s H C cl fp => (dts_one (dt_val (dde (dr_f (Z.blk _ _ _ _ _) (ok__law_is_later T B) (by decide) (by rfl) (da_cons (dv 21) (da_cons (dv 20) da_nil))))))) (fun s H C cl fp => de_int))) (dde (dr_lst da_nil)) (nomark _)) (dss_one (ds_ret (ddr de_bl))) dss_nil) (dss_cons (ds_for [] (passes_of rfl) rfl (di_rng1 Z.mg (by rfl) T.b_range (da_cons de_int da_nil)) (dg_name (by exact nd) (by rfl) (by first | exact .inl rfl | exact .inr rfl)) (dss_cons (ds_if (dt_cmp (op_neD Z.hu64) (dop_ne Z.K) (dde (dr_lc (own := [("_law_who", 19)]) rfl nd (di_walk (by exact Z.K) (dde (dr_f Z (ok_shows T B) (by decide) (by rfl) (da_cons (dv 5) (da_cons (dv 10) (da_cons (dv 16) da_nil)))))) (blkOk_by (N := N_law) (sc := defScope s_law) (by decide +kernel)) (fun s H C cl fp => (dg_name (by exact nd) (by rfl) (by first | exact .inl rfl | exact .inr rfl))) (by decide) (fun s H C cl fp => (dts_one (dt_cmp (op_notInAll Z.K Z.hu) dop_in (dv 19) (dde (dr_f (Z.blk _ _ _ _ _) (ok_shows T B) (by decide) (by rfl) (da_cons (dv 5) (da_cons (dv 10) (da_cons (dde (dr_op op_addAll (dop_add Z.K) (dv 16) de_int)) da_nil))))) (by with_unfolding_all rfl)))) (fun s H C cl fp => (dv 19)))) (dde (dr_lst da_nil)) (nomark _)) (dss_one (ds_ret (ddr de_bl))) dss_nil) (dss_one (ds_if (dt_cmp (op_neD Z.hu64) (dop_ne Z.K) (dde (dr_lc (own := [("_law_who", 19)]) rfl nd (di_walk (by exact Z.K) (dde (dr_f Z (ok_able T B) (by decide) (by rfl) (da_cons (dv 5) (da_cons (dv 10) (da_cons (dv 16) da_nil)))))) (blkOk_by (N := N_law) (sc := defScope s_law) (by decide +kernel)) (fun s H C cl fp => (dg_name (by exact nd) (by rfl) (by first | exact .inl rfl | exact .inr rfl))) (by decide) (fun s H C cl fp => (dts_one (dt_cmp (op_notInAll Z.K Z.hu) dop_in (dv 19) (dde (dr_f (Z.blk _ _ _ _ _) (ok_able T B) (by decide) (by rfl) (da_cons (dv 5) (da_cons (dv 10) (da_cons (dde (dr_op op_addAll (dop_add Z.K) (dv 16) de_int)) da_nil))))) (by with_unfolding_all rfl)))) (fun s H C cl fp => (dv 19)))) (dde (dr_lst da_nil)) (nomark _)) (dss_one (ds_ret (ddr de_bl))) dss_nil)))) (dss_cons (ds_set [2, 4] (dr_slice Z.K (dde (dr_f Z (ok__law_mixed T B) (by decide) (by rfl) (da_cons (dv 2) (da_cons (dde (dr_lc (own := [("_law_who", 19)]) rfl nd (di_walk (by exact Z.K) (de_ix (ix_all Z.K Z.hu1) dop_ix (dv 4) de_int (fun _ _ => rfl))) (blkOk_by (N := N_law) (sc := defScope s_law) (by decide +kernel)) (fun s H C cl fp => (dg_name (by exact nd) (by rfl) (by first | exact .inl rfl | exact .inr rfl))) (by decide) (fun s H C cl fp => dts_nil) (fun s H C cl fp => (de_ix (ix_all Z.K Z.hu1) dop_ix (dv 19) de_int (fun _ _ => rfl))))) da_nil)))) do_none (do_some de_int)) nd rfl (by first | exact .inl rfl | exact .inr rfl)) (dss_cons (ds_set [5, 2, 17] (dr_meth (dvs := []) Z T.k_Plan T.m_Plan_further (ok_Plan_further T B) (by decide) (bd_Plan_further T) .nil (fun _ _ => rfl) (dv 5) (da_cons (dde (dr_lst (da_cons (de_tup (da_cons (dde (dr_f Z (ok__law_choose T B) (by decide) (by rfl) (da_cons (dv 2) (da_cons de_int da_nil)))) (da_cons (de_ix (ix_all Z.K Z.hu1) dop_ix (dv 17) de_int (fun _ _ => rfl)) (da_cons (de_ix (ix_all Z.K Z.hu1) dop_ix (dv 17) de_int (fun _ _ => rfl)) da_nil)))) da_nil))) da_nil)) nd rfl (by first | exact .inl rfl | exact .inr rfl)) (dss_cons (ds_if (dt_cmp (op_neD Z.hu64) (dop_ne Z.K) (dde (dr_lc (own := [("_law_left", 20), ("_law_right", 21)]) rfl nd (di_zip Z.K Z.mg (by rfl) T.b_zip (da_cons (dde (dr_f Z (ok_since T B) (by decide) (by rfl) (da_cons (dv 18) (da_cons (dv 10) da_nil)))) (da_cons (dv 11) da_nil))) (blkOk_by (N := N_law) (sc := defScope s_law) (by decide +kernel)) (fun s H C cl fp => (dg_tup (by exact Z.K) (by rfl) (dgs_cons (dg_name (by exact nd) (by rfl) (by first | exact .inl rfl | exact .inr rfl)) (dgs_cons (dg_name (by exact nd) (by rfl) (by first | exact .inl rfl | exact .inr rfl)) dgs_nil)))) (by decide) (fun s H C cl fp => (dts_one (dt_val (dde (dr_f (Z.blk _ _ _ _ _) (ok__law_is_later T B) (by decide) (by rfl) (da_cons (dv 20) (da_cons (dv 21) da_nil))))))) (fun s H C cl fp => de_int))) (dde (dr_lst da_nil)) (nomark _)) (dss_one (ds_ret (ddr de_bl))) dss_nil) (dss_one (ds_if (dt_cmp (op_neD Z.hu64) (dop_ne Z.K) (dde (dr_f Z (ok_since T B) (by decide) (by rfl) (da_cons (dde (dr_make (c := "Plan") (dvs := []) Z T.k_Plan.mg T.mk_Plan (ok_Plan___init__ T B) (by decide) (bd_Plan___init__ T) .nil (fun _ _ => rfl) (by rfl) (da_cons (de_ix (ix_all Z.K Z.hu1) dop_ix (dv 4) de_int (fun _ _ => rfl)) (da_cons (dde (dr_f Z (ok__law_mixed T B) (by decide) (by rfl) (da_cons (dv 2) (da_cons (de_ix (ix_all Z.K Z.hu1) dop_ix (dv 4) de_int (fun _ _ => rfl)) da_nil)))) da_nil)))) (da_cons (dv 10) da_nil)))) (dv 11) (nomark _)) (dss_one (ds_ret (ddr de_bl))) dss_nil))))))))))))))))))))) (dss_one (ds_ret (ddr de_bl))))
end
theorem all_mk {P : Program} {w : World} {K : PySem.W.Frag} {h : Heap} {mg : Str → Option Value} {C fa ed eT r_is_integer r_is_length r_is_name r_is_number r_is_span r_is_person r_is_sequence r_are_people r_is_meeting r__law_mixed r__law_one_of r__law_drawn r__law_is_later r__law_least r_number_in r_meeting_in r_person_in r__law_text r__law_made r__law_seed r__law_worlds r_passed r_days_by r_lot_by r_is_first_one r_spans_of r_need_world r_able r_shows r_since r__law_choose r_law r_Plan___init__ r_Plan_further r_Plan_read q_Plan_read r_Plan_names q_Plan_names : Addr} (X : K.In h) (G : h.Ns mainGlobals mg) (hfa : mg "law" = some (.ref fa))
    {od_is_integer an_is_integer : Option Addr} {sl_is_integer : Array (Option Value)} {oc_is_integer kV_is_integer dc_is_integer pm_is_integer cd_is_integer ct_is_integer : Value}
    {od_is_length an_is_length : Option Addr} {sl_is_length : Array (Option Value)} {oc_is_length kV_is_length dc_is_length pm_is_length cd_is_length ct_is_length : Value}
    {od_is_name an_is_name : Option Addr} {sl_is_name : Array (Option Value)} {oc_is_name kV_is_name dc_is_name pm_is_name cd_is_name ct_is_name : Value}
    {od_is_number an_is_number : Option Addr} {sl_is_number : Array (Option Value)} {oc_is_number kV_is_number dc_is_number pm_is_number cd_is_number ct_is_number : Value}
    {od_is_span an_is_span : Option Addr} {sl_is_span : Array (Option Value)} {oc_is_span kV_is_span dc_is_span pm_is_span cd_is_span ct_is_span : Value}
    {od_is_person an_is_person : Option Addr} {sl_is_person : Array (Option Value)} {oc_is_person kV_is_person dc_is_person pm_is_person cd_is_person ct_is_person : Value}
    {od_is_sequence an_is_sequence : Option Addr} {sl_is_sequence : Array (Option Value)} {oc_is_sequence kV_is_sequence dc_is_sequence pm_is_sequence cd_is_sequence ct_is_sequence : Value}
    {od_are_people an_are_people : Option Addr} {sl_are_people : Array (Option Value)} {oc_are_people kV_are_people dc_are_people pm_are_people cd_are_people ct_are_people : Value}
    {od_is_meeting an_is_meeting : Option Addr} {sl_is_meeting : Array (Option Value)} {oc_is_meeting kV_is_meeting dc_is_meeting pm_is_meeting cd_is_meeting ct_is_meeting : Value}
    {od__law_mixed an__law_mixed : Option Addr} {sl__law_mixed : Array (Option Value)} {oc__law_mixed kV__law_mixed dc__law_mixed pm__law_mixed cd__law_mixed ct__law_mixed : Value}
    {od__law_one_of an__law_one_of : Option Addr} {sl__law_one_of : Array (Option Value)} {oc__law_one_of kV__law_one_of dc__law_one_of pm__law_one_of cd__law_one_of ct__law_one_of : Value}
    {od__law_drawn an__law_drawn : Option Addr} {sl__law_drawn : Array (Option Value)} {oc__law_drawn kV__law_drawn dc__law_drawn pm__law_drawn cd__law_drawn ct__law_drawn : Value}
    {od__law_is_later an__law_is_later : Option Addr} {sl__law_is_later : Array (Option Value)} {oc__law_is_later kV__law_is_later dc__law_is_later pm__law_is_later cd__law_is_later ct__law_is_later : Value}
    {od__law_least an__law_least : Option Addr} {sl__law_least : Array (Option Value)} {oc__law_least kV__law_least dc__law_least pm__law_least cd__law_least ct__law_least : Value}
    {od_number_in an_number_in : Option Addr} {sl_number_in : Array (Option Value)} {oc_number_in kV_number_in dc_number_in pm_number_in cd_number_in ct_number_in : Value}
    {od_meeting_in an_meeting_in : Option Addr} {sl_meeting_in : Array (Option Value)} {oc_meeting_in kV_meeting_in dc_meeting_in pm_meeting_in cd_meeting_in ct_meeting_in : Value}
    {od_person_in an_person_in : Option Addr} {sl_person_in : Array (Option Value)} {oc_person_in kV_person_in dc_person_in pm_person_in cd_person_in ct_person_in : Value}
    {od__law_text an__law_text : Option Addr} {sl__law_text : Array (Option Value)} {oc__law_text kV__law_text dc__law_text pm__law_text cd__law_text ct__law_text : Value}
    {od__law_made an__law_made : Option Addr} {sl__law_made : Array (Option Value)} {oc__law_made kV__law_made dc__law_made pm__law_made cd__law_made ct__law_made : Value}
    {od__law_seed an__law_seed : Option Addr} {sl__law_seed : Array (Option Value)} {oc__law_seed kV__law_seed dc__law_seed pm__law_seed cd__law_seed ct__law_seed : Value}
    {od__law_worlds an__law_worlds : Option Addr} {sl__law_worlds : Array (Option Value)} {oc__law_worlds kV__law_worlds dc__law_worlds pm__law_worlds cd__law_worlds ct__law_worlds : Value}
    {od_passed an_passed : Option Addr} {sl_passed : Array (Option Value)} {oc_passed kV_passed dc_passed pm_passed cd_passed ct_passed : Value}
    {od_days_by an_days_by : Option Addr} {sl_days_by : Array (Option Value)} {oc_days_by kV_days_by dc_days_by pm_days_by cd_days_by ct_days_by : Value}
    {od_lot_by an_lot_by : Option Addr} {sl_lot_by : Array (Option Value)} {oc_lot_by kV_lot_by dc_lot_by pm_lot_by cd_lot_by ct_lot_by : Value}
    {od_is_first_one an_is_first_one : Option Addr} {sl_is_first_one : Array (Option Value)} {oc_is_first_one kV_is_first_one dc_is_first_one pm_is_first_one cd_is_first_one ct_is_first_one : Value}
    {od_spans_of an_spans_of : Option Addr} {sl_spans_of : Array (Option Value)} {oc_spans_of kV_spans_of dc_spans_of pm_spans_of cd_spans_of ct_spans_of : Value}
    {od_need_world an_need_world : Option Addr} {sl_need_world : Array (Option Value)} {oc_need_world kV_need_world dc_need_world pm_need_world cd_need_world ct_need_world : Value}
    {od_able an_able : Option Addr} {sl_able : Array (Option Value)} {oc_able kV_able dc_able pm_able cd_able ct_able : Value}
    {od_shows an_shows : Option Addr} {sl_shows : Array (Option Value)} {oc_shows kV_shows dc_shows pm_shows cd_shows ct_shows : Value}
    {od_since an_since : Option Addr} {sl_since : Array (Option Value)} {oc_since kV_since dc_since pm_since cd_since ct_since : Value}
    {od__law_choose an__law_choose : Option Addr} {sl__law_choose : Array (Option Value)} {oc__law_choose kV__law_choose dc__law_choose pm__law_choose cd__law_choose ct__law_choose : Value}
    {od_law an_law : Option Addr} {sl_law : Array (Option Value)} {oc_law kV_law dc_law pm_law cd_law ct_law : Value}
    {od_Plan___init__ an_Plan___init__ : Option Addr} {sl_Plan___init__ : Array (Option Value)} {oc_Plan___init__ kV_Plan___init__ dc_Plan___init__ pm_Plan___init__ cd_Plan___init__ ct_Plan___init__ : Value}
    {oc_T : Value} {od_T od_e : Option Addr} {n_T n_e : Nat} {sl_T sl_e : Array (Option Value)}
    {od_Plan_further an_Plan_further : Option Addr} {sl_Plan_further : Array (Option Value)} {oc_Plan_further kV_Plan_further dc_Plan_further pm_Plan_further cd_Plan_further ct_Plan_further : Value}
    {rest_Plan_read : List Value}
    {od_Plan_read an_Plan_read : Option Addr} {sl_Plan_read : Array (Option Value)} {oc_Plan_read kV_Plan_read dc_Plan_read pm_Plan_read cd_Plan_read ct_Plan_read : Value}
    {rest_Plan_names : List Value}
    {od_Plan_names an_Plan_names : Option Addr} {sl_Plan_names : Array (Option Value)} {oc_Plan_names kV_Plan_names dc_Plan_names pm_Plan_names cd_Plan_names ct_Plan_names : Value}
    {tk_LETTERS : Tok}
    {tk_MOST_LETTERS : Tok}
    {tk_MOST_SIGNS : Tok}
    {tk_SIGNS : Tok}
    (h_a_is_integer : PySem.W.nsIn K mainGlobals "is_integer" = some (some (.ref r_is_integer)))
    (h_l_is_integer : K.lookup r_is_integer = some ⟨oc_is_integer, od_is_integer, .func (PySem.W.fnOf "is_integer" "is_integer" (defArgs s_is_integer) (defBody s_is_integer) (defScope s_is_integer) .none kV_is_integer dc_is_integer pm_is_integer an_is_integer cd_is_integer ct_is_integer), sl_is_integer⟩)
    (h_c_is_integer : PySem.W.codeIn K cd_is_integer "is_integer" = true)
    (h_k_is_integer : PySem.W.keepIn K (.ref r_is_integer) = true)
    (h_a_is_length : PySem.W.nsIn K mainGlobals "is_length" = some (some (.ref r_is_length)))
    (h_l_is_length : K.lookup r_is_length = some ⟨oc_is_length, od_is_length, .func (PySem.W.fnOf "is_length" "is_length" (defArgs s_is_length) (defBody s_is_length) (defScope s_is_length) .none kV_is_length dc_is_length pm_is_length an_is_length cd_is_length ct_is_length), sl_is_length⟩)
    (h_c_is_length : PySem.W.codeIn K cd_is_length "is_length" = true)
    (h_k_is_length : PySem.W.keepIn K (.ref r_is_length) = true)
    (h_a_is_name : PySem.W.nsIn K mainGlobals "is_name" = some (some (.ref r_is_name)))
    (h_l_is_name : K.lookup r_is_name = some ⟨oc_is_name, od_is_name, .func (PySem.W.fnOf "is_name" "is_name" (defArgs s_is_name) (defBody s_is_name) (defScope s_is_name) .none kV_is_name dc_is_name pm_is_name an_is_name cd_is_name ct_is_name), sl_is_name⟩)
    (h_c_is_name : PySem.W.codeIn K cd_is_name "is_name" = true)
    (h_k_is_name : PySem.W.keepIn K (.ref r_is_name) = true)
    (h_a_is_number : PySem.W.nsIn K mainGlobals "is_number" = some (some (.ref r_is_number)))
    (h_l_is_number : K.lookup r_is_number = some ⟨oc_is_number, od_is_number, .func (PySem.W.fnOf "is_number" "is_number" (defArgs s_is_number) (defBody s_is_number) (defScope s_is_number) .none kV_is_number dc_is_number pm_is_number an_is_number cd_is_number ct_is_number), sl_is_number⟩)
    (h_c_is_number : PySem.W.codeIn K cd_is_number "is_number" = true)
    (h_k_is_number : PySem.W.keepIn K (.ref r_is_number) = true)
    (h_a_is_span : PySem.W.nsIn K mainGlobals "is_span" = some (some (.ref r_is_span)))
    (h_l_is_span : K.lookup r_is_span = some ⟨oc_is_span, od_is_span, .func (PySem.W.fnOf "is_span" "is_span" (defArgs s_is_span) (defBody s_is_span) (defScope s_is_span) .none kV_is_span dc_is_span pm_is_span an_is_span cd_is_span ct_is_span), sl_is_span⟩)
    (h_c_is_span : PySem.W.codeIn K cd_is_span "is_span" = true)
    (h_k_is_span : PySem.W.keepIn K (.ref r_is_span) = true)
    (h_a_is_person : PySem.W.nsIn K mainGlobals "is_person" = some (some (.ref r_is_person)))
    (h_l_is_person : K.lookup r_is_person = some ⟨oc_is_person, od_is_person, .func (PySem.W.fnOf "is_person" "is_person" (defArgs s_is_person) (defBody s_is_person) (defScope s_is_person) .none kV_is_person dc_is_person pm_is_person an_is_person cd_is_person ct_is_person), sl_is_person⟩)
    (h_c_is_person : PySem.W.codeIn K cd_is_person "is_person" = true)
    (h_k_is_person : PySem.W.keepIn K (.ref r_is_person) = true)
    (h_a_is_sequence : PySem.W.nsIn K mainGlobals "is_sequence" = some (some (.ref r_is_sequence)))
    (h_l_is_sequence : K.lookup r_is_sequence = some ⟨oc_is_sequence, od_is_sequence, .func (PySem.W.fnOf "is_sequence" "is_sequence" (defArgs s_is_sequence) (defBody s_is_sequence) (defScope s_is_sequence) .none kV_is_sequence dc_is_sequence pm_is_sequence an_is_sequence cd_is_sequence ct_is_sequence), sl_is_sequence⟩)
    (h_c_is_sequence : PySem.W.codeIn K cd_is_sequence "is_sequence" = true)
    (h_k_is_sequence : PySem.W.keepIn K (.ref r_is_sequence) = true)
    (h_a_are_people : PySem.W.nsIn K mainGlobals "are_people" = some (some (.ref r_are_people)))
    (h_l_are_people : K.lookup r_are_people = some ⟨oc_are_people, od_are_people, .func (PySem.W.fnOf "are_people" "are_people" (defArgs s_are_people) (defBody s_are_people) (defScope s_are_people) .none kV_are_people dc_are_people pm_are_people an_are_people cd_are_people ct_are_people), sl_are_people⟩)
    (h_c_are_people : PySem.W.codeIn K cd_are_people "are_people" = true)
    (h_k_are_people : PySem.W.keepIn K (.ref r_are_people) = true)
    (h_a_is_meeting : PySem.W.nsIn K mainGlobals "is_meeting" = some (some (.ref r_is_meeting)))
    (h_l_is_meeting : K.lookup r_is_meeting = some ⟨oc_is_meeting, od_is_meeting, .func (PySem.W.fnOf "is_meeting" "is_meeting" (defArgs s_is_meeting) (defBody s_is_meeting) (defScope s_is_meeting) .none kV_is_meeting dc_is_meeting pm_is_meeting an_is_meeting cd_is_meeting ct_is_meeting), sl_is_meeting⟩)
    (h_c_is_meeting : PySem.W.codeIn K cd_is_meeting "is_meeting" = true)
    (h_k_is_meeting : PySem.W.keepIn K (.ref r_is_meeting) = true)
    (h_a__law_mixed : PySem.W.nsIn K mainGlobals "_law_mixed" = some (some (.ref r__law_mixed)))
    (h_l__law_mixed : K.lookup r__law_mixed = some ⟨oc__law_mixed, od__law_mixed, .func (PySem.W.fnOf "_law_mixed" "_law_mixed" (defArgs s__law_mixed) (defBody s__law_mixed) (defScope s__law_mixed) .none kV__law_mixed dc__law_mixed pm__law_mixed an__law_mixed cd__law_mixed ct__law_mixed), sl__law_mixed⟩)
    (h_c__law_mixed : PySem.W.codeIn K cd__law_mixed "_law_mixed" = true)
    (h_k__law_mixed : PySem.W.keepIn K (.ref r__law_mixed) = true)
    (h_a__law_one_of : PySem.W.nsIn K mainGlobals "_law_one_of" = some (some (.ref r__law_one_of)))
    (h_l__law_one_of : K.lookup r__law_one_of = some ⟨oc__law_one_of, od__law_one_of, .func (PySem.W.fnOf "_law_one_of" "_law_one_of" (defArgs s__law_one_of) (defBody s__law_one_of) (defScope s__law_one_of) .none kV__law_one_of dc__law_one_of pm__law_one_of an__law_one_of cd__law_one_of ct__law_one_of), sl__law_one_of⟩)
    (h_c__law_one_of : PySem.W.codeIn K cd__law_one_of "_law_one_of" = true)
    (h_k__law_one_of : PySem.W.keepIn K (.ref r__law_one_of) = true)
    (h_a__law_drawn : PySem.W.nsIn K mainGlobals "_law_drawn" = some (some (.ref r__law_drawn)))
    (h_l__law_drawn : K.lookup r__law_drawn = some ⟨oc__law_drawn, od__law_drawn, .func (PySem.W.fnOf "_law_drawn" "_law_drawn" (defArgs s__law_drawn) (defBody s__law_drawn) (defScope s__law_drawn) .none kV__law_drawn dc__law_drawn pm__law_drawn an__law_drawn cd__law_drawn ct__law_drawn), sl__law_drawn⟩)
    (h_c__law_drawn : PySem.W.codeIn K cd__law_drawn "_law_drawn" = true)
    (h_k__law_drawn : PySem.W.keepIn K (.ref r__law_drawn) = true)
    (h_a__law_is_later : PySem.W.nsIn K mainGlobals "_law_is_later" = some (some (.ref r__law_is_later)))
    (h_l__law_is_later : K.lookup r__law_is_later = some ⟨oc__law_is_later, od__law_is_later, .func (PySem.W.fnOf "_law_is_later" "_law_is_later" (defArgs s__law_is_later) (defBody s__law_is_later) (defScope s__law_is_later) .none kV__law_is_later dc__law_is_later pm__law_is_later an__law_is_later cd__law_is_later ct__law_is_later), sl__law_is_later⟩)
    (h_c__law_is_later : PySem.W.codeIn K cd__law_is_later "_law_is_later" = true)
    (h_k__law_is_later : PySem.W.keepIn K (.ref r__law_is_later) = true)
    (h_a__law_least : PySem.W.nsIn K mainGlobals "_law_least" = some (some (.ref r__law_least)))
    (h_l__law_least : K.lookup r__law_least = some ⟨oc__law_least, od__law_least, .func (PySem.W.fnOf "_law_least" "_law_least" (defArgs s__law_least) (defBody s__law_least) (defScope s__law_least) .none kV__law_least dc__law_least pm__law_least an__law_least cd__law_least ct__law_least), sl__law_least⟩)
    (h_c__law_least : PySem.W.codeIn K cd__law_least "_law_least" = true)
    (h_k__law_least : PySem.W.keepIn K (.ref r__law_least) = true)
    (h_a_number_in : PySem.W.nsIn K mainGlobals "number_in" = some (some (.ref r_number_in)))
    (h_l_number_in : K.lookup r_number_in = some ⟨oc_number_in, od_number_in, .func (PySem.W.fnOf "number_in" "number_in" (defArgs s_number_in) (defBody s_number_in) (defScope s_number_in) .none kV_number_in dc_number_in pm_number_in an_number_in cd_number_in ct_number_in), sl_number_in⟩)
    (h_c_number_in : PySem.W.codeIn K cd_number_in "number_in" = true)
    (h_k_number_in : PySem.W.keepIn K (.ref r_number_in) = true)
    (h_a_meeting_in : PySem.W.nsIn K mainGlobals "meeting_in" = some (some (.ref r_meeting_in)))
    (h_l_meeting_in : K.lookup r_meeting_in = some ⟨oc_meeting_in, od_meeting_in, .func (PySem.W.fnOf "meeting_in" "meeting_in" (defArgs s_meeting_in) (defBody s_meeting_in) (defScope s_meeting_in) .none kV_meeting_in dc_meeting_in pm_meeting_in an_meeting_in cd_meeting_in ct_meeting_in), sl_meeting_in⟩)
    (h_c_meeting_in : PySem.W.codeIn K cd_meeting_in "meeting_in" = true)
    (h_k_meeting_in : PySem.W.keepIn K (.ref r_meeting_in) = true)
    (h_a_person_in : PySem.W.nsIn K mainGlobals "person_in" = some (some (.ref r_person_in)))
    (h_l_person_in : K.lookup r_person_in = some ⟨oc_person_in, od_person_in, .func (PySem.W.fnOf "person_in" "person_in" (defArgs s_person_in) (defBody s_person_in) (defScope s_person_in) .none kV_person_in dc_person_in pm_person_in an_person_in cd_person_in ct_person_in), sl_person_in⟩)
    (h_c_person_in : PySem.W.codeIn K cd_person_in "person_in" = true)
    (h_k_person_in : PySem.W.keepIn K (.ref r_person_in) = true)
    (h_a__law_text : PySem.W.nsIn K mainGlobals "_law_text" = some (some (.ref r__law_text)))
    (h_l__law_text : K.lookup r__law_text = some ⟨oc__law_text, od__law_text, .func (PySem.W.fnOf "_law_text" "_law_text" (defArgs s__law_text) (defBody s__law_text) (defScope s__law_text) .none kV__law_text dc__law_text pm__law_text an__law_text cd__law_text ct__law_text), sl__law_text⟩)
    (h_c__law_text : PySem.W.codeIn K cd__law_text "_law_text" = true)
    (h_k__law_text : PySem.W.keepIn K (.ref r__law_text) = true)
    (h_a__law_made : PySem.W.nsIn K mainGlobals "_law_made" = some (some (.ref r__law_made)))
    (h_l__law_made : K.lookup r__law_made = some ⟨oc__law_made, od__law_made, .func (PySem.W.fnOf "_law_made" "_law_made" (defArgs s__law_made) (defBody s__law_made) (defScope s__law_made) .none kV__law_made dc__law_made pm__law_made an__law_made cd__law_made ct__law_made), sl__law_made⟩)
    (h_c__law_made : PySem.W.codeIn K cd__law_made "_law_made" = true)
    (h_k__law_made : PySem.W.keepIn K (.ref r__law_made) = true)
    (h_a__law_seed : PySem.W.nsIn K mainGlobals "_law_seed" = some (some (.ref r__law_seed)))
    (h_l__law_seed : K.lookup r__law_seed = some ⟨oc__law_seed, od__law_seed, .func (PySem.W.fnOf "_law_seed" "_law_seed" (defArgs s__law_seed) (defBody s__law_seed) (defScope s__law_seed) .none kV__law_seed dc__law_seed pm__law_seed an__law_seed cd__law_seed ct__law_seed), sl__law_seed⟩)
    (h_c__law_seed : PySem.W.codeIn K cd__law_seed "_law_seed" = true)
    (h_k__law_seed : PySem.W.keepIn K (.ref r__law_seed) = true)
    (h_a__law_worlds : PySem.W.nsIn K mainGlobals "_law_worlds" = some (some (.ref r__law_worlds)))
    (h_l__law_worlds : K.lookup r__law_worlds = some ⟨oc__law_worlds, od__law_worlds, .func (PySem.W.fnOf "_law_worlds" "_law_worlds" (defArgs s__law_worlds) (defBody s__law_worlds) (defScope s__law_worlds) .none kV__law_worlds dc__law_worlds pm__law_worlds an__law_worlds cd__law_worlds ct__law_worlds), sl__law_worlds⟩)
    (h_c__law_worlds : PySem.W.codeIn K cd__law_worlds "_law_worlds" = true)
    (h_k__law_worlds : PySem.W.keepIn K (.ref r__law_worlds) = true)
    (h_a_passed : PySem.W.nsIn K mainGlobals "passed" = some (some (.ref r_passed)))
    (h_l_passed : K.lookup r_passed = some ⟨oc_passed, od_passed, .func (PySem.W.fnOf "passed" "passed" (defArgs s_passed) (defBody s_passed) (defScope s_passed) .none kV_passed dc_passed pm_passed an_passed cd_passed ct_passed), sl_passed⟩)
    (h_c_passed : PySem.W.codeIn K cd_passed "passed" = true)
    (h_k_passed : PySem.W.keepIn K (.ref r_passed) = true)
    (h_a_days_by : PySem.W.nsIn K mainGlobals "days_by" = some (some (.ref r_days_by)))
    (h_l_days_by : K.lookup r_days_by = some ⟨oc_days_by, od_days_by, .func (PySem.W.fnOf "days_by" "days_by" (defArgs s_days_by) (defBody s_days_by) (defScope s_days_by) .none kV_days_by dc_days_by pm_days_by an_days_by cd_days_by ct_days_by), sl_days_by⟩)
    (h_c_days_by : PySem.W.codeIn K cd_days_by "days_by" = true)
    (h_k_days_by : PySem.W.keepIn K (.ref r_days_by) = true)
    (h_a_lot_by : PySem.W.nsIn K mainGlobals "lot_by" = some (some (.ref r_lot_by)))
    (h_l_lot_by : K.lookup r_lot_by = some ⟨oc_lot_by, od_lot_by, .func (PySem.W.fnOf "lot_by" "lot_by" (defArgs s_lot_by) (defBody s_lot_by) (defScope s_lot_by) .none kV_lot_by dc_lot_by pm_lot_by an_lot_by cd_lot_by ct_lot_by), sl_lot_by⟩)
    (h_c_lot_by : PySem.W.codeIn K cd_lot_by "lot_by" = true)
    (h_k_lot_by : PySem.W.keepIn K (.ref r_lot_by) = true)
    (h_a_is_first_one : PySem.W.nsIn K mainGlobals "is_first_one" = some (some (.ref r_is_first_one)))
    (h_l_is_first_one : K.lookup r_is_first_one = some ⟨oc_is_first_one, od_is_first_one, .func (PySem.W.fnOf "is_first_one" "is_first_one" (defArgs s_is_first_one) (defBody s_is_first_one) (defScope s_is_first_one) .none kV_is_first_one dc_is_first_one pm_is_first_one an_is_first_one cd_is_first_one ct_is_first_one), sl_is_first_one⟩)
    (h_c_is_first_one : PySem.W.codeIn K cd_is_first_one "is_first_one" = true)
    (h_k_is_first_one : PySem.W.keepIn K (.ref r_is_first_one) = true)
    (h_a_spans_of : PySem.W.nsIn K mainGlobals "spans_of" = some (some (.ref r_spans_of)))
    (h_l_spans_of : K.lookup r_spans_of = some ⟨oc_spans_of, od_spans_of, .func (PySem.W.fnOf "spans_of" "spans_of" (defArgs s_spans_of) (defBody s_spans_of) (defScope s_spans_of) .none kV_spans_of dc_spans_of pm_spans_of an_spans_of cd_spans_of ct_spans_of), sl_spans_of⟩)
    (h_c_spans_of : PySem.W.codeIn K cd_spans_of "spans_of" = true)
    (h_k_spans_of : PySem.W.keepIn K (.ref r_spans_of) = true)
    (h_a_need_world : PySem.W.nsIn K mainGlobals "need_world" = some (some (.ref r_need_world)))
    (h_l_need_world : K.lookup r_need_world = some ⟨oc_need_world, od_need_world, .func (PySem.W.fnOf "need_world" "need_world" (defArgs s_need_world) (defBody s_need_world) (defScope s_need_world) .none kV_need_world dc_need_world pm_need_world an_need_world cd_need_world ct_need_world), sl_need_world⟩)
    (h_c_need_world : PySem.W.codeIn K cd_need_world "need_world" = true)
    (h_k_need_world : PySem.W.keepIn K (.ref r_need_world) = true)
    (h_a_able : PySem.W.nsIn K mainGlobals "able" = some (some (.ref r_able)))
    (h_l_able : K.lookup r_able = some ⟨oc_able, od_able, .func (PySem.W.fnOf "able" "able" (defArgs s_able) (defBody s_able) (defScope s_able) .none kV_able dc_able pm_able an_able cd_able ct_able), sl_able⟩)
    (h_c_able : PySem.W.codeIn K cd_able "able" = true)
    (h_k_able : PySem.W.keepIn K (.ref r_able) = true)
    (h_a_shows : PySem.W.nsIn K mainGlobals "shows" = some (some (.ref r_shows)))
    (h_l_shows : K.lookup r_shows = some ⟨oc_shows, od_shows, .func (PySem.W.fnOf "shows" "shows" (defArgs s_shows) (defBody s_shows) (defScope s_shows) .none kV_shows dc_shows pm_shows an_shows cd_shows ct_shows), sl_shows⟩)
    (h_c_shows : PySem.W.codeIn K cd_shows "shows" = true)
    (h_k_shows : PySem.W.keepIn K (.ref r_shows) = true)
    (h_a_since : PySem.W.nsIn K mainGlobals "since" = some (some (.ref r_since)))
    (h_l_since : K.lookup r_since = some ⟨oc_since, od_since, .func (PySem.W.fnOf "since" "since" (defArgs s_since) (defBody s_since) (defScope s_since) .none kV_since dc_since pm_since an_since cd_since ct_since), sl_since⟩)
    (h_c_since : PySem.W.codeIn K cd_since "since" = true)
    (h_k_since : PySem.W.keepIn K (.ref r_since) = true)
    (h_a__law_choose : PySem.W.nsIn K mainGlobals "_law_choose" = some (some (.ref r__law_choose)))
    (h_l__law_choose : K.lookup r__law_choose = some ⟨oc__law_choose, od__law_choose, .func (PySem.W.fnOf "_law_choose" "_law_choose" (defArgs s__law_choose) (defBody s__law_choose) (defScope s__law_choose) .none kV__law_choose dc__law_choose pm__law_choose an__law_choose cd__law_choose ct__law_choose), sl__law_choose⟩)
    (h_c__law_choose : PySem.W.codeIn K cd__law_choose "_law_choose" = true)
    (h_k__law_choose : PySem.W.keepIn K (.ref r__law_choose) = true)
    (h_a_law : PySem.W.nsIn K mainGlobals "law" = some (some (.ref r_law)))
    (h_l_law : K.lookup r_law = some ⟨oc_law, od_law, .func (PySem.W.fnOf "law" "law" (defArgs s_law) (defBody s_law) (defScope s_law) .none kV_law dc_law pm_law an_law cd_law ct_law), sl_law⟩)
    (h_c_law : PySem.W.codeIn K cd_law "law" = true)
    (h_k_law : PySem.W.keepIn K (.ref r_law) = true)
    (h_aC : PySem.W.nsIn K mainGlobals "Plan" = some (some (.ref C)))
    (h_pg : PySem.W.plainGet K C Str.empty = true)
    (h_hd : PySem.W.hasDictIn K C = true)
    (h_po : PySem.W.plainOver K C = true)
    (h_sa : PySem.W.findIn K (.ref C) "__setattr__" = some (some (.builtin "object.__setattr__")))
    (h_mk : PySem.W.makesIn K C = true)
    (h_kc : PySem.W.keepIn K (.ref C) = true)
    (h_cr : PySem.W.readsIn K C (.type "type") = true)
    (h_cg : PySem.W.specialIn K (.ref C) "__getattribute__" = some (some (.builtin "type.__getattribute__")))
    (h_n_people : PySem.W.findIn K (.ref C) "people" = some none)
    (h_n_meetings : PySem.W.findIn K (.ref C) "meetings" = some none)
    (h_m_Plan___init__ : PySem.W.findIn K (.ref C) "__init__" = some (some (.ref r_Plan___init__)))
    (h_i_Plan___init__ : PySem.W.isFn K (.ref r_Plan___init__) = true)
    (h_l_Plan___init__ : K.lookup r_Plan___init__ = some ⟨oc_Plan___init__, od_Plan___init__, .func (PySem.W.fnOf "__init__" "Plan.__init__" (defArgs s_Plan___init__) (defBody s_Plan___init__) (defScope s_Plan___init__) (.ref eT) kV_Plan___init__ dc_Plan___init__ pm_Plan___init__ an_Plan___init__ cd_Plan___init__ ct_Plan___init__), sl_Plan___init__⟩)
    (h_c_Plan___init__ : PySem.W.codeIn K cd_Plan___init__ "Plan.__init__" = true)
    (h_k_Plan___init__ : PySem.W.keepIn K (.ref r_Plan___init__) = true)
    (h_lT : K.lookup eT = some ⟨oc_T, od_T, .seq #[.ref ed] n_T, sl_T⟩)
    (h_le : K.lookup ed = some ⟨.type "tuple", od_e, .seq #[] n_e, sl_e⟩)
    (h_m_Plan_further : PySem.W.findIn K (.ref C) "further" = some (some (.ref r_Plan_further)))
    (h_i_Plan_further : PySem.W.isFn K (.ref r_Plan_further) = true)
    (h_l_Plan_further : K.lookup r_Plan_further = some ⟨oc_Plan_further, od_Plan_further, .func (PySem.W.fnOf "further" "Plan.further" (defArgs s_Plan_further) (defBody s_Plan_further) (defScope s_Plan_further) .none kV_Plan_further dc_Plan_further pm_Plan_further an_Plan_further cd_Plan_further ct_Plan_further), sl_Plan_further⟩)
    (h_c_Plan_further : PySem.W.codeIn K cd_Plan_further "Plan.further" = true)
    (h_k_Plan_further : PySem.W.keepIn K (.ref r_Plan_further) = true)
    (h_ca_Plan_read : PySem.W.findCls K (.ref C) (.type "type") "read" = some (.get (.builtin "classmethod.__get__") (.ref q_Plan_read) .none (.ref C)))
    (h_cc_Plan_read : PySem.W.recIn K q_Plan_read "classmethod" = some (.ref r_Plan_read :: rest_Plan_read))
    (h_cf_Plan_read : PySem.W.fnIn K r_Plan_read = true)
    (h_l_Plan_read : K.lookup r_Plan_read = some ⟨oc_Plan_read, od_Plan_read, .func (PySem.W.fnOf "read" "Plan.read" (defArgs s_Plan_read) (defBody s_Plan_read) (defScope s_Plan_read) .none kV_Plan_read dc_Plan_read pm_Plan_read an_Plan_read cd_Plan_read ct_Plan_read), sl_Plan_read⟩)
    (h_c_Plan_read : PySem.W.codeIn K cd_Plan_read "Plan.read" = true)
    (h_k_Plan_read : PySem.W.keepIn K (.ref r_Plan_read) = true)
    (h_m_Plan_names : PySem.W.findIn K (.ref C) "names" = some (some (.ref q_Plan_names)))
    (h_g_Plan_names : PySem.W.specialIn K (.ref q_Plan_names) "__get__" = some (some (.builtin "property.__get__")))
    (h_t_Plan_names : PySem.W.takesIn K (.ref q_Plan_names) = some true)
    (h_e_Plan_names : PySem.W.recIn K q_Plan_names "property" = some (.ref r_Plan_names :: rest_Plan_names))
    (h_l_Plan_names : K.lookup r_Plan_names = some ⟨oc_Plan_names, od_Plan_names, .func (PySem.W.fnOf "names" "Plan.names" (defArgs s_Plan_names) (defBody s_Plan_names) (defScope s_Plan_names) .none kV_Plan_names dc_Plan_names pm_Plan_names an_Plan_names cd_Plan_names ct_Plan_names), sl_Plan_names⟩)
    (h_c_Plan_names : PySem.W.codeIn K cd_Plan_names "Plan.names" = true)
    (h_k_Plan_names : PySem.W.keepIn K (.ref r_Plan_names) = true)
    (h_tq : tbsOk ([] : List Tb) = true)
    (h_z_abs : PySem.W.nsIn K mainGlobals "abs" = some none)
    (h_z_all : PySem.W.nsIn K mainGlobals "all" = some none)
    (h_z_bool : PySem.W.nsIn K mainGlobals "bool" = some none)
    (h_z_dict : PySem.W.nsIn K mainGlobals "dict" = some none)
    (h_z_enumerate : PySem.W.nsIn K mainGlobals "enumerate" = some none)
    (h_z_int : PySem.W.nsIn K mainGlobals "int" = some none)
    (h_z_isinstance : PySem.W.nsIn K mainGlobals "isinstance" = some none)
    (h_z_len : PySem.W.nsIn K mainGlobals "len" = some none)
    (h_z_list : PySem.W.nsIn K mainGlobals "list" = some none)
    (h_z_max : PySem.W.nsIn K mainGlobals "max" = some none)
    (h_z_min : PySem.W.nsIn K mainGlobals "min" = some none)
    (h_z_range : PySem.W.nsIn K mainGlobals "range" = some none)
    (h_z_sorted : PySem.W.nsIn K mainGlobals "sorted" = some none)
    (h_z_str : PySem.W.nsIn K mainGlobals "str" = some none)
    (h_z_tuple : PySem.W.nsIn K mainGlobals "tuple" = some none)
    (h_z_zip : PySem.W.nsIn K mainGlobals "zip" = some none)
    (h_y_LETTERS : PySem.W.nsIn K mainGlobals "LETTERS" = some (some (.str "abcdefghijklmnopqrstuvwxyz" tk_LETTERS)))
    (h_y_MOST_LETTERS : PySem.W.nsIn K mainGlobals "MOST_LETTERS" = some (some (.int 4 tk_MOST_LETTERS)))
    (h_y_MOST_SIGNS : PySem.W.nsIn K mainGlobals "MOST_SIGNS" = some (some (.int 19 tk_MOST_SIGNS)))
    (h_y_SIGNS : PySem.W.nsIn K mainGlobals "SIGNS" = some (some (.str "0123456789" tk_SIGNS)))
    : ∃ (fd : FuncData) (ts : List Tb), (∀ t ∈ ts, ∃ x ∈ ([] : List Str), PySem.W.tabIn K x = some (t.c, t.P) ∧ K.lookup t.P = none) ∧ (∀ (s : Shared) (u : Value), BindsTo s fd ⟨[u], []⟩ [("_law_script", u)]) ∧ ∀ base : Heap, K.In base → base.Ns mainGlobals mg → (∀ t ∈ ts, LamX.TabB base mg t.c t.P) → FnD P w ⟨K, mg, tabsOf ts⟩ base 10 fa fd ["_law_script"] sem_law := by
  have e := hfa.symm.trans (PySem.W.mg_of X G h_a_law)
  cases e
  have FL := fun_mk (st := s_law) h_l_law h_c_law h_k_law
  have F_Plan___init__ := funI_mk (st := s_Plan___init__) h_l_Plan___init__ h_c_Plan___init__ h_lT h_le h_k_Plan___init__
  have F_Plan_further := fun_mk (st := s_Plan_further) h_l_Plan_further h_c_Plan_further h_k_Plan_further
  have F_Plan_read := fun_mk (st := s_Plan_read) h_l_Plan_read h_c_Plan_read h_k_Plan_read
  have F_Plan_names := fun_mk (st := s_Plan_names) h_l_Plan_names h_c_Plan_names h_k_Plan_names
  obtain ⟨ts, ets⟩ : ∃ ts : List Tb, ts = [] := ⟨_, rfl⟩
  rw [← ets] at h_tq
  have T : Txt ⟨K, mg, tabsOf ts⟩ ts C ed r_Plan___init__ _ r_Plan_further _ r_Plan_read _ q_Plan_read r_Plan_names _ q_Plan_names := { tabs := rfl, b_abs := PySem.W.mg_none_of X G h_z_abs, b_all := PySem.W.mg_none_of X G h_z_all, b_bool := PySem.W.mg_none_of X G h_z_bool, b_dict := PySem.W.mg_none_of X G h_z_dict, b_enumerate := PySem.W.mg_none_of X G h_z_enumerate, b_int := PySem.W.mg_none_of X G h_z_int, b_isinstance := PySem.W.mg_none_of X G h_z_isinstance, b_len := PySem.W.mg_none_of X G h_z_len, b_list := PySem.W.mg_none_of X G h_z_list, b_max := PySem.W.mg_none_of X G h_z_max, b_min := PySem.W.mg_none_of X G h_z_min, b_range := PySem.W.mg_none_of X G h_z_range, b_sorted := PySem.W.mg_none_of X G h_z_sorted, b_str := PySem.W.mg_none_of X G h_z_str, b_tuple := PySem.W.mg_none_of X G h_z_tuple, b_zip := PySem.W.mg_none_of X G h_z_zip, c_LETTERS := ⟨_, PySem.W.mg_of X G h_y_LETTERS⟩, c_MOST_LETTERS := ⟨_, PySem.W.mg_of X G h_y_MOST_LETTERS⟩, c_MOST_SIGNS := ⟨_, PySem.W.mg_of X G h_y_MOST_SIGNS⟩, c_SIGNS := ⟨_, PySem.W.mg_of X G h_y_SIGNS⟩, f_is_integer := ⟨_, _, PySem.W.mg_of X G h_a_is_integer, fun_mk (st := s_is_integer) h_l_is_integer h_c_is_integer h_k_is_integer⟩, f_is_length := ⟨_, _, PySem.W.mg_of X G h_a_is_length, fun_mk (st := s_is_length) h_l_is_length h_c_is_length h_k_is_length⟩, f_is_name := ⟨_, _, PySem.W.mg_of X G h_a_is_name, fun_mk (st := s_is_name) h_l_is_name h_c_is_name h_k_is_name⟩, f_is_number := ⟨_, _, PySem.W.mg_of X G h_a_is_number, fun_mk (st := s_is_number) h_l_is_number h_c_is_number h_k_is_number⟩, f_is_span := ⟨_, _, PySem.W.mg_of X G h_a_is_span, fun_mk (st := s_is_span) h_l_is_span h_c_is_span h_k_is_span⟩, f_is_person := ⟨_, _, PySem.W.mg_of X G h_a_is_person, fun_mk (st := s_is_person) h_l_is_person h_c_is_person h_k_is_person⟩, f_is_sequence := ⟨_, _, PySem.W.mg_of X G h_a_is_sequence, fun_mk (st := s_is_sequence) h_l_is_sequence h_c_is_sequence h_k_is_sequence⟩, f_are_people := ⟨_, _, PySem.W.mg_of X G h_a_are_people, fun_mk (st := s_are_people) h_l_are_people h_c_are_people h_k_are_people⟩, f_is_meeting := ⟨_, _, PySem.W.mg_of X G h_a_is_meeting, fun_mk (st := s_is_meeting) h_l_is_meeting h_c_is_meeting h_k_is_meeting⟩, f__law_mixed := ⟨_, _, PySem.W.mg_of X G h_a__law_mixed, fun_mk (st := s__law_mixed) h_l__law_mixed h_c__law_mixed h_k__law_mixed⟩, f__law_one_of := ⟨_, _, PySem.W.mg_of X G h_a__law_one_of, fun_mk (st := s__law_one_of) h_l__law_one_of h_c__law_one_of h_k__law_one_of⟩, f__law_drawn := ⟨_, _, PySem.W.mg_of X G h_a__law_drawn, fun_mk (st := s__law_drawn) h_l__law_drawn h_c__law_drawn h_k__law_drawn⟩, f__law_is_later := ⟨_, _, PySem.W.mg_of X G h_a__law_is_later, fun_mk (st := s__law_is_later) h_l__law_is_later h_c__law_is_later h_k__law_is_later⟩, f__law_least := ⟨_, _, PySem.W.mg_of X G h_a__law_least, fun_mk (st := s__law_least) h_l__law_least h_c__law_least h_k__law_least⟩, f_number_in := ⟨_, _, PySem.W.mg_of X G h_a_number_in, fun_mk (st := s_number_in) h_l_number_in h_c_number_in h_k_number_in⟩, f_meeting_in := ⟨_, _, PySem.W.mg_of X G h_a_meeting_in, fun_mk (st := s_meeting_in) h_l_meeting_in h_c_meeting_in h_k_meeting_in⟩, f_person_in := ⟨_, _, PySem.W.mg_of X G h_a_person_in, fun_mk (st := s_person_in) h_l_person_in h_c_person_in h_k_person_in⟩, f__law_text := ⟨_, _, PySem.W.mg_of X G h_a__law_text, fun_mk (st := s__law_text) h_l__law_text h_c__law_text h_k__law_text⟩, f__law_made := ⟨_, _, PySem.W.mg_of X G h_a__law_made, fun_mk (st := s__law_made) h_l__law_made h_c__law_made h_k__law_made⟩, f__law_seed := ⟨_, _, PySem.W.mg_of X G h_a__law_seed, fun_mk (st := s__law_seed) h_l__law_seed h_c__law_seed h_k__law_seed⟩, f__law_worlds := ⟨_, _, PySem.W.mg_of X G h_a__law_worlds, fun_mk (st := s__law_worlds) h_l__law_worlds h_c__law_worlds h_k__law_worlds⟩, f_passed := ⟨_, _, PySem.W.mg_of X G h_a_passed, fun_mk (st := s_passed) h_l_passed h_c_passed h_k_passed⟩, f_days_by := ⟨_, _, PySem.W.mg_of X G h_a_days_by, fun_mk (st := s_days_by) h_l_days_by h_c_days_by h_k_days_by⟩, f_lot_by := ⟨_, _, PySem.W.mg_of X G h_a_lot_by, fun_mk (st := s_lot_by) h_l_lot_by h_c_lot_by h_k_lot_by⟩, f_is_first_one := ⟨_, _, PySem.W.mg_of X G h_a_is_first_one, fun_mk (st := s_is_first_one) h_l_is_first_one h_c_is_first_one h_k_is_first_one⟩, f_spans_of := ⟨_, _, PySem.W.mg_of X G h_a_spans_of, fun_mk (st := s_spans_of) h_l_spans_of h_c_spans_of h_k_spans_of⟩, f_need_world := ⟨_, _, PySem.W.mg_of X G h_a_need_world, fun_mk (st := s_need_world) h_l_need_world h_c_need_world h_k_need_world⟩, f_able := ⟨_, _, PySem.W.mg_of X G h_a_able, fun_mk (st := s_able) h_l_able h_c_able h_k_able⟩, f_shows := ⟨_, _, PySem.W.mg_of X G h_a_shows, fun_mk (st := s_shows) h_l_shows h_c_shows h_k_shows⟩, f_since := ⟨_, _, PySem.W.mg_of X G h_a_since, fun_mk (st := s_since) h_l_since h_c_since h_k_since⟩, f__law_choose := ⟨_, _, PySem.W.mg_of X G h_a__law_choose, fun_mk (st := s__law_choose) h_l__law_choose h_c__law_choose h_k__law_choose⟩, f_law := ⟨_, _, PySem.W.mg_of X G h_a_law, fun_mk (st := s_law) h_l_law h_c_law h_k_law⟩, k_Plan := ⟨PySem.W.mg_of X G h_aC, h_pg, h_hd, h_po, h_sa⟩, n_Plan_people := h_n_people, n_Plan_meetings := h_n_meetings, f_Plan___init__ := F_Plan___init__, mk_Plan := ⟨h_mk, h_m_Plan___init__, h_i_Plan___init__, h_kc⟩, f_Plan_further := F_Plan_further, m_Plan_further := ⟨h_m_Plan_further, h_i_Plan_further, h_k_Plan_further⟩, f_Plan_read := F_Plan_read, cm_Plan_read := ⟨h_ca_Plan_read, ⟨_, h_cc_Plan_read⟩, h_cf_Plan_read⟩, f_Plan_names := F_Plan_names, p_Plan_names := ⟨h_m_Plan_names, h_g_Plan_names, h_t_Plan_names, _, h_e_Plan_names⟩, cr_Plan := ⟨h_cr, h_cg⟩ }
  refine ⟨_, ts, fun t ht => ?_, fun s u => .of_eq rfl, fun base _ _ B => ok_law T B FL⟩
  rw [ets] at ht
  cases ht
end FbL
end

section
set_option Elab.async false
set_option maxRecDepth 100000

open PySem PySem.W PyProof.Rows in
set_option maxRecDepth 100000 in
set_option maxHeartbeats 0 in
theorem PySem.Challenge.cw_firstbore_k18_whole_worlds_put_together_holds : PySem.Challenge.rw_firstbore_k18_whole_worlds_put_together.Holds := by
  w_on; o_law; k_head; (case hw => w_witness2)
  k_fill
  refine Fb.end_walk [] (l := PySem.Challenge.rw_firstbore_k18_whole_worlds_put_together) (n := 63) (k := 10) (x := "_law_script") (sem := FbL.sem_law) rfl (by decide) rfl ⟨rfl, by decide, by decide⟩ (fun w h Y => PySem.W.kIn_of Y) (by decide +kernel) ?F FbL.law_true
  case F =>
    intro w mg fa h KX G hmg
    refine' FbL.all_mk KX G hmg ?h_a_is_integer ?h_l_is_integer ?h_c_is_integer ?h_k_is_integer ?h_a_is_length ?h_l_is_length ?h_c_is_length ?h_k_is_length ?h_a_is_name ?h_l_is_name ?h_c_is_name ?h_k_is_name ?h_a_is_number ?h_l_is_number ?h_c_is_number ?h_k_is_number ?h_a_is_span ?h_l_is_span ?h_c_is_span ?h_k_is_span ?h_a_is_person ?h_l_is_person ?h_c_is_person ?h_k_is_person ?h_a_is_sequence ?h_l_is_sequence ?h_c_is_sequence ?h_k_is_sequence ?h_a_are_people ?h_l_are_people ?h_c_are_people ?h_k_are_people ?h_a_is_meeting ?h_l_is_meeting ?h_c_is_meeting ?h_k_is_meeting ?h_a__law_mixed ?h_l__law_mixed ?h_c__law_mixed ?h_k__law_mixed ?h_a__law_one_of ?h_l__law_one_of ?h_c__law_one_of ?h_k__law_one_of ?h_a__law_drawn ?h_l__law_drawn ?h_c__law_drawn ?h_k__law_drawn ?h_a__law_is_later ?h_l__law_is_later ?h_c__law_is_later ?h_k__law_is_later ?h_a__law_least ?h_l__law_least ?h_c__law_least ?h_k__law_least ?h_a_number_in ?h_l_number_in ?h_c_number_in ?h_k_number_in ?h_a_meeting_in ?h_l_meeting_in ?h_c_meeting_in ?h_k_meeting_in ?h_a_person_in ?h_l_person_in ?h_c_person_in ?h_k_person_in ?h_a__law_text ?h_l__law_text ?h_c__law_text ?h_k__law_text ?h_a__law_made ?h_l__law_made ?h_c__law_made ?h_k__law_made ?h_a__law_seed ?h_l__law_seed ?h_c__law_seed ?h_k__law_seed ?h_a__law_worlds ?h_l__law_worlds ?h_c__law_worlds ?h_k__law_worlds ?h_a_passed ?h_l_passed ?h_c_passed ?h_k_passed ?h_a_days_by ?h_l_days_by ?h_c_days_by ?h_k_days_by ?h_a_lot_by ?h_l_lot_by ?h_c_lot_by ?h_k_lot_by ?h_a_is_first_one ?h_l_is_first_one ?h_c_is_first_one ?h_k_is_first_one ?h_a_spans_of ?h_l_spans_of ?h_c_spans_of ?h_k_spans_of ?h_a_need_world ?h_l_need_world ?h_c_need_world ?h_k_need_world ?h_a_able ?h_l_able ?h_c_able ?h_k_able ?h_a_shows ?h_l_shows ?h_c_shows ?h_k_shows ?h_a_since ?h_l_since ?h_c_since ?h_k_since ?h_a__law_choose ?h_l__law_choose ?h_c__law_choose ?h_k__law_choose ?h_a_law ?h_l_law ?h_c_law ?h_k_law ?h_aC ?h_pg ?h_hd ?h_po ?h_sa ?h_mk ?h_kc ?h_cr ?h_cg ?h_n_people ?h_n_meetings ?h_m_Plan___init__ ?h_i_Plan___init__ ?h_l_Plan___init__ ?h_c_Plan___init__ ?h_k_Plan___init__ ?h_lT ?h_le ?h_m_Plan_further ?h_i_Plan_further ?h_l_Plan_further ?h_c_Plan_further ?h_k_Plan_further ?h_ca_Plan_read ?h_cc_Plan_read ?h_cf_Plan_read ?h_l_Plan_read ?h_c_Plan_read ?h_k_Plan_read ?h_m_Plan_names ?h_g_Plan_names ?h_t_Plan_names ?h_e_Plan_names ?h_l_Plan_names ?h_c_Plan_names ?h_k_Plan_names ?h_tq ?h_z_abs ?h_z_all ?h_z_bool ?h_z_dict ?h_z_enumerate ?h_z_int ?h_z_isinstance ?h_z_len ?h_z_list ?h_z_max ?h_z_min ?h_z_range ?h_z_sorted ?h_z_str ?h_z_tuple ?h_z_zip ?h_y_LETTERS ?h_y_MOST_LETTERS ?h_y_MOST_SIGNS ?h_y_SIGNS
    (case h_a_is_integer => k_is)
    (case h_l_is_integer => k_is)
    (case h_c_is_integer => k_is)
    (case h_k_is_integer => k_is)
    (case h_a_is_length => k_is)
    (case h_l_is_length => k_is)
    (case h_c_is_length => k_is)
    (case h_k_is_length => k_is)
    (case h_a_is_name => k_is)
    (case h_l_is_name => k_is)
    (case h_c_is_name => k_is)
    (case h_k_is_name => k_is)
    (case h_a_is_number => k_is)
    (case h_l_is_number => k_is)
    (case h_c_is_number => k_is)
    (case h_k_is_number => k_is)
    (case h_a_is_span => k_is)
    (case h_l_is_span => k_is)
    (case h_c_is_span => k_is)
    (case h_k_is_span => k_is)
    (case h_a_is_person => k_is)
    (case h_l_is_person => k_is)
    (case h_c_is_person => k_is)
    (case h_k_is_person => k_is)
    (case h_a_is_sequence => k_is)
    (case h_l_is_sequence => k_is)
    (case h_c_is_sequence => k_is)
    (case h_k_is_sequence => k_is)
    (case h_a_are_people => k_is)
    (case h_l_are_people => k_is)
    (case h_c_are_people => k_is)
    (case h_k_are_people => k_is)
    (case h_a_is_meeting => k_is)
    (case h_l_is_meeting => k_is)
    (case h_c_is_meeting => k_is)
    (case h_k_is_meeting => k_is)
    (case h_a__law_mixed => k_is)
    (case h_l__law_mixed => k_is)
    (case h_c__law_mixed => k_is)
    (case h_k__law_mixed => k_is)
    (case h_a__law_one_of => k_is)
    (case h_l__law_one_of => k_is)
    (case h_c__law_one_of => k_is)
    (case h_k__law_one_of => k_is)
    (case h_a__law_drawn => k_is)
    (case h_l__law_drawn => k_is)
    (case h_c__law_drawn => k_is)
    (case h_k__law_drawn => k_is)
    (case h_a__law_is_later => k_is)
    (case h_l__law_is_later => k_is)
    (case h_c__law_is_later => k_is)
    (case h_k__law_is_later => k_is)
    (case h_a__law_least => k_is)
    (case h_l__law_least => k_is)
    (case h_c__law_least => k_is)
    (case h_k__law_least => k_is)
    (case h_a_number_in => k_is)
    (case h_l_number_in => k_is)
    (case h_c_number_in => k_is)
    (case h_k_number_in => k_is)
    (case h_a_meeting_in => k_is)
    (case h_l_meeting_in => k_is)
    (case h_c_meeting_in => k_is)
    (case h_k_meeting_in => k_is)
    (case h_a_person_in => k_is)
    (case h_l_person_in => k_is)
    (case h_c_person_in => k_is)
    (case h_k_person_in => k_is)
    (case h_a__law_text => k_is)
    (case h_l__law_text => k_is)
    (case h_c__law_text => k_is)
    (case h_k__law_text => k_is)
    (case h_a__law_made => k_is)
    (case h_l__law_made => k_is)
    (case h_c__law_made => k_is)
    (case h_k__law_made => k_is)
    (case h_a__law_seed => k_is)
    (case h_l__law_seed => k_is)
    (case h_c__law_seed => k_is)
    (case h_k__law_seed => k_is)
    (case h_a__law_worlds => k_is)
    (case h_l__law_worlds => k_is)
    (case h_c__law_worlds => k_is)
    (case h_k__law_worlds => k_is)
    (case h_a_passed => k_is)
    (case h_l_passed => k_is)
    (case h_c_passed => k_is)
    (case h_k_passed => k_is)
    (case h_a_days_by => k_is)
    (case h_l_days_by => k_is)
    (case h_c_days_by => k_is)
    (case h_k_days_by => k_is)
    (case h_a_lot_by => k_is)
    (case h_l_lot_by => k_is)
    (case h_c_lot_by => k_is)
    (case h_k_lot_by => k_is)
    (case h_a_is_first_one => k_is)
    (case h_l_is_first_one => k_is)
    (case h_c_is_first_one => k_is)
    (case h_k_is_first_one => k_is)
    (case h_a_spans_of => k_is)
    (case h_l_spans_of => k_is)
    (case h_c_spans_of => k_is)
    (case h_k_spans_of => k_is)
    (case h_a_need_world => k_is)
    (case h_l_need_world => k_is)
    (case h_c_need_world => k_is)
    (case h_k_need_world => k_is)
    (case h_a_able => k_is)
    (case h_l_able => k_is)
    (case h_c_able => k_is)
    (case h_k_able => k_is)
    (case h_a_shows => k_is)
    (case h_l_shows => k_is)
    (case h_c_shows => k_is)
    (case h_k_shows => k_is)
    (case h_a_since => k_is)
    (case h_l_since => k_is)
    (case h_c_since => k_is)
    (case h_k_since => k_is)
    (case h_a__law_choose => k_is)
    (case h_l__law_choose => k_is)
    (case h_c__law_choose => k_is)
    (case h_k__law_choose => k_is)
    (case h_a_law => k_is)
    (case h_l_law => k_is)
    (case h_c_law => k_is)
    (case h_k_law => k_is)
    (case h_aC => k_is)
    (case h_pg => k_is)
    (case h_hd => k_is)
    (case h_po => k_is)
    (case h_sa => k_is)
    (case h_mk => k_is)
    (case h_kc => k_is)
    (case h_cr => k_is)
    (case h_cg => k_is)
    (case h_n_people => k_is)
    (case h_n_meetings => k_is)
    (case h_m_Plan___init__ => k_is)
    (case h_i_Plan___init__ => k_is)
    (case h_l_Plan___init__ => k_is)
    (case h_c_Plan___init__ => k_is)
    (case h_k_Plan___init__ => k_is)
    (case h_lT => k_is)
    (case h_le => k_is)
    (case h_m_Plan_further => k_is)
    (case h_i_Plan_further => k_is)
    (case h_l_Plan_further => k_is)
    (case h_c_Plan_further => k_is)
    (case h_k_Plan_further => k_is)
    (case h_ca_Plan_read => k_is)
    (case h_cc_Plan_read => k_is)
    (case h_cf_Plan_read => k_is)
    (case h_l_Plan_read => k_is)
    (case h_c_Plan_read => k_is)
    (case h_k_Plan_read => k_is)
    (case h_m_Plan_names => k_is)
    (case h_g_Plan_names => k_is)
    (case h_t_Plan_names => k_is)
    (case h_e_Plan_names => k_is)
    (case h_l_Plan_names => k_is)
    (case h_c_Plan_names => k_is)
    (case h_k_Plan_names => k_is)
    (case h_tq => decide +kernel)
    (case h_z_abs => k_is)
    (case h_z_all => k_is)
    (case h_z_bool => k_is)
    (case h_z_dict => k_is)
    (case h_z_enumerate => k_is)
    (case h_z_int => k_is)
    (case h_z_isinstance => k_is)
    (case h_z_len => k_is)
    (case h_z_list => k_is)
    (case h_z_max => k_is)
    (case h_z_min => k_is)
    (case h_z_range => k_is)
    (case h_z_sorted => k_is)
    (case h_z_str => k_is)
    (case h_z_tuple => k_is)
    (case h_z_zip => k_is)
    (case h_y_LETTERS => k_is)
    (case h_y_MOST_LETTERS => k_is)
    (case h_y_MOST_SIGNS => k_is)
    (case h_y_SIGNS => k_is)
end
