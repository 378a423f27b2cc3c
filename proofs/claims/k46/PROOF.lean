import PyProof.Rows.All
import Wide.All
import OpenK.AllK
import Wide.FinOn
import HandS.Base
import HandS.Call
import HandS.List
import HandS.Comp
import HandS.Dict
import HandS.Iter
import HandS.Text
import HandS.Exc
import HandS.Lambda
import HandS.Words
import HandS.Ends
import HandS.WordsExc
import HandS.ClsMeth
import HandS.Deep
import HandS.Wide
import HandS.IsInst
import PyProof.P3In
import HandS.Star
import HandS.Property
import HandS.Style
import HandS.RaiseMore
import HandS.WordsDict
import HandS.More
import KE.SortData
import HandS.DictComp
import HandS.NoneIn
import HandS.Zip0
import PyProof.Draws
import HandS.Defaults
import HandS.TupMul
import HandS.ForMost
import PySem.Challenge.RW_firstbore_k46_plans_of_far_days_compared
section
set_option Elab.async false
set_option linter.all false
set_option maxRecDepth 100000
set_option maxHeartbeats 4000000
/-! Data, and what of it a value stands for. -/
namespace Fb
open PySem PySem.Spec PyProof.Rows L2
abbrev St := L2.St

/-- data without addresses -/
inductive D where
  | non | bl (b : Bool) | int (i : Int) | str (x : Str)
  | tup (xs : List D) | lst (xs : List D) | dic (kvs : List (Key × D))
  | ins (c : Str) (fs : List (Str × D))
  | box (n : Nat)
  | ty (n : String)
  | cls (c : Str)
  | raw (a : Addr)
  | scr (ns : List Int)
  deriving Inhabited

/-- the world of a row: its written part, its module's names -/
structure Wd where
  K : PySem.W.Frag
  mg : Str → Option Value
  box : Nat → Addr → Heap → Prop

/-- a tuple: tracked, or of the written part -/
def TupAt (K : PySem.W.Frag) (H : Hp) (a : Addr) (xs : List V) : Prop :=
  H a = some (.tup xs) ∨ ∃ (o : Obj) (its : Array Value) (n : Nat), K.lookup a = some o ∧ o.cls = .type "tuple" ∧ o.data = .seq its n ∧ its.size ≤ sizeLine ∧ Vals xs its.toList
/-- the box of draws, a list [cells, number]: what stands at a; at b, its cells -/
def boxA (a b : Addr) : Heap → Prop := fun h => ∃ (m : Int) (its : List Value) (n : Nat), Vals [.ref b, .int m] its ∧ h.get? a = some { cls := .type "list", data := .seq its.toArray n }
def boxB (b : Addr) : Heap → Prop := fun h => ∃ (ns : List Int) (its : List Value) (n : Nat), ns.length ≤ 100 ∧ Vals (ns.map V.int) its ∧ h.get? b = some { cls := .type "list", data := .seq its.toArray n }
/-- a list [number, number] -/
def boxC (a : Addr) : Heap → Prop := fun h => ∃ (i m : Int) (its : List Value) (n : Nat), Vals [.int i, .int m] its ∧ h.get? a = some { cls := .type "list", data := .seq its.toArray n }
def BoxAt (H : Hp) (n : Nat) (a : Addr) : Prop := if n = 0 then ∃ b, a ≠ b ∧ H a = some (.ext (boxA a b)) ∧ H b = some (.ext (boxB b)) else H a = some (.ext (boxC a))
/-- what is loosely known stays known -/
theorem BoxAt.imp {H H' : Hp} {n : Nat} {a : Addr} (h : BoxAt H n a) (k : ∀ b φ, H b = some (.ext φ) → H' b = some (.ext φ)) : BoxAt H' n a := by
  unfold BoxAt at h ⊢
  by_cases e : n = 0
  · rw [if_pos e] at h ⊢
    obtain ⟨b, ne, h1, h2⟩ := h
    exact ⟨b, ne, k _ _ h1, k _ _ h2⟩
  · rw [if_neg e] at h ⊢
    exact k _ _ h
/-- the script: a list of the caller's, or of the written part -/
def ScrAt (K : PySem.W.Frag) (H : Hp) (a : Addr) (ns : List Int) : Prop := (∃ o, H a = some (.frz o (.lst (ns.map V.int)))) ∨
  ∃ (o : Obj) (its : Array Value) (n : Nat), K.lookup a = some o ∧ o.cls = .type "list" ∧ o.dict = none ∧ o.data = .seq its n ∧ its.size ≤ sizeLine ∧ Vals (ns.map V.int) its.toList
theorem ScrAt.sq {K : PySem.W.Frag} {H : Hp} {a : Addr} {ns : List Int} (h : ScrAt K H a ns) : SqL K H a (ns.map V.int) := h.elim (fun ⟨o, e⟩ => .inl (.inr ⟨o, e⟩)) .inr
theorem TupAt.sq {K : PySem.W.Frag} {H : Hp} {a : Addr} {xs : List V} (h : TupAt K H a xs) : SqT K H a xs := h.elim (fun z => .inl (.inl z)) .inr
section
variable (G : Wd) (N : Addr → Prop) (H : Hp)
mutual
/-- v stands for the data in the heap H; N: the addresses that its lists and dicts may have -/
def Rep : D → V → Prop
  | .non, v => v = .non
  | .bl b, v => v = .bl b
  | .int i, v => v = .int i
  | .str x, v => v = .str x
  | .tup ds, v => ∃ a vs, v = .ref a ∧ TupAt G.K H a vs ∧ Reps ds vs
  | .lst ds, v => ∃ a vs, v = .ref a ∧ N a ∧ H a = some (.lst vs) ∧ Reps ds vs
  | .dic kvs, v => ∃ a ks, v = .ref a ∧ N a ∧ Rd H a (.dK ks) ∧ RepK kvs ks
  | .ins c fs, v => ∃ a C dx gs, v = .ref a ∧ G.mg c = some (.ref C) ∧ H a = some (.ins C dx gs) ∧ RepF fs gs
  | .box n, v => ∃ a, v = .ref a ∧ BoxAt H n a
  | .ty n, v => v = .ty n
  | .cls c, v => ∃ C, v = .ref C ∧ G.mg c = some (.ref C)
  | .raw x, v => v = .ref x
  | .scr ns, v => ∃ a, v = .ref a ∧ ScrAt G.K H a ns
def Reps : List D → List V → Prop
  | [], vs => vs = []
  | d :: ds, vs => ∃ w ws, vs = w :: ws ∧ Rep d w ∧ Reps ds ws
def RepK : List (Key × D) → List (Key × V) → Prop
  | [], vs => vs = []
  | (k, d) :: ds, vs => ∃ w ws, vs = (k, w) :: ws ∧ Rep d w ∧ RepK ds ws
def RepF : List (Str × D) → List (Str × V) → Prop
  | [], vs => vs = []
  | (k, d) :: ds, vs => ∃ w ws, vs = (k, w) :: ws ∧ Rep d w ∧ RepF ds ws
end
end

/-- the heap has grown; a dict may be locked or unlocked -/
def Le (H H' : Hp) : Prop := ∀ a o, H a = some o → H' a = some o ∨ (∃ ks, o = .dK ks ∧ ∃ ob, H' a = some (.frz ob (.dK ks))) ∨ ∃ ob ks, o = .frz ob (.dK ks) ∧ H' a = some (.dK ks)
theorem Le.of {H H' : Hp} (h : Same H H') : Le H H' := fun a o e => .inl (h a o e)
theorem Le.rd {H H' : Hp} (h : Le H H') {a : Addr} {u : HO} (hu : ∀ o w, u ≠ .frz o w) (r : Rd H a u) : Rd H' a u := by
  rcases r with e | ⟨o, e⟩
  · rcases h a u e with q | ⟨ks, rfl, ob, q⟩ | ⟨ob, ks, rfl, q⟩
    · exact .inl q
    · exact .inr ⟨ob, q⟩
    · exact absurd rfl (hu _ _)
  · rcases h a _ e with q | ⟨ks, z, ob, q⟩ | ⟨ob, ks, z, q⟩
    · exact .inr ⟨_, q⟩
    · cases z
    · cases z; exact .inl q
theorem Le.tupT {K : PySem.W.Frag} {H H' : Hp} (h : Le H H') {a : Addr} {xs : List V} (r : TupAt K H a xs) : TupAt K H' a xs := by
  rcases r with r | r
  · rcases h a _ r with q | ⟨ks, z, _⟩ | ⟨ob, ks, z, _⟩
    · exact .inl q
    · cases z
    · cases z
  · exact .inr r
theorem Le.ins {H H' : Hp} (h : Le H H') {a C dx : Addr} {fs : List (Str × V)} (r : H a = some (.ins C dx fs)) : H' a = some (.ins C dx fs) := by
  rcases h a _ r with q | ⟨ks, z, _⟩ | ⟨ob, ks, z, _⟩
  · exact q
  · cases z
  · cases z
theorem Le.lst {H H' : Hp} (h : Le H H') {a : Addr} {xs : List V} (r : H a = some (.lst xs)) : H' a = some (.lst xs) := by
  rcases h a _ r with q | ⟨ks, z, _⟩ | ⟨ob, ks, z, _⟩
  · exact q
  · cases z
  · cases z
theorem Le.scr {K : PySem.W.Frag} {H H' : Hp} (h : Le H H') {a : Addr} {ns : List Int} (r : ScrAt K H a ns) : ScrAt K H' a ns := by
  rcases r with ⟨o, r⟩ | r
  · rcases h a _ r with q | ⟨ks, z, _⟩ | ⟨ob, ks, z, _⟩
    · exact .inl ⟨o, q⟩
    · cases z
    · cases z
  · exact .inr r
theorem Le.ext {H H' : Hp} (h : Le H H') {a : Addr} {φ : Heap → Prop} (r : H a = some (.ext φ)) : H' a = some (.ext φ) := by
  rcases h a _ r with q | ⟨ks, z, _⟩ | ⟨ob, ks, z, _⟩
  · exact q
  · cases z
  · cases z
theorem Rd.some {H : Hp} {a : Addr} {u : HO} (r : Rd H a u) : H a ≠ none := by
  rcases r with e | ⟨o, e⟩ <;> (rw [e]; exact fun z => nomatch z)

section
variable {G : Wd} {N N' : Addr → Prop} {H H' : Hp}
mutual
theorem Rep.mono (hN : ∀ a, N a → H a ≠ none → N' a) (hL : Le H H') : ∀ {d : D} {v : V}, Rep G N H d v → Rep G N' H' d v
  | .non, _, h => h
  | .bl _, _, h => h
  | .int _, _, h => h
  | .str _, _, h => h
  | .tup ds, _, ⟨a, vs, e, q, r⟩ => ⟨a, vs, e, hL.tupT q, Reps.mono hN hL r⟩
  | .lst ds, _, ⟨a, vs, e, n, q, r⟩ => ⟨a, vs, e, hN a n (Rd.some (.inl q)), hL.lst q, Reps.mono hN hL r⟩
  | .dic kvs, _, ⟨a, ks, e, n, q, r⟩ => ⟨a, ks, e, hN a n (Rd.some q), hL.rd (fun _ _ z => by cases z) q, RepK.mono hN hL r⟩
  | .ins c fs, _, ⟨a, C, dx, gs, e, m, q, r⟩ => ⟨a, C, dx, gs, e, m, hL.ins q, RepF.mono hN hL r⟩
  | .box n, _, ⟨a, e, q⟩ => ⟨a, e, q.imp fun _ _ z => hL.ext z⟩
  | .ty _, _, h => h
  | .cls _, _, h => h
  | .raw _, _, h => h
  | .scr _, _, ⟨a, e, q⟩ => ⟨a, e, hL.scr q⟩
theorem Reps.mono (hN : ∀ a, N a → H a ≠ none → N' a) (hL : Le H H') : ∀ {ds : List D} {vs : List V}, Reps G N H ds vs → Reps G N' H' ds vs
  | [], _, h => h
  | _ :: _, _, ⟨w, ws, e, r, rs⟩ => ⟨w, ws, e, Rep.mono hN hL r, Reps.mono hN hL rs⟩
theorem RepK.mono (hN : ∀ a, N a → H a ≠ none → N' a) (hL : Le H H') : ∀ {ds : List (Key × D)} {vs : List (Key × V)}, RepK G N H ds vs → RepK G N' H' ds vs
  | [], _, h => h
  | (_, _) :: _, _, ⟨w, ws, e, r, rs⟩ => ⟨w, ws, e, Rep.mono hN hL r, RepK.mono hN hL rs⟩
theorem RepF.mono (hN : ∀ a, N a → H a ≠ none → N' a) (hL : Le H H') : ∀ {ds : List (Str × D)} {vs : List (Str × V)}, RepF G N H ds vs → RepF G N' H' ds vs
  | [], _, h => h
  | (_, _) :: _, _, ⟨w, ws, e, r, rs⟩ => ⟨w, ws, e, Rep.mono hN hL r, RepF.mono hN hL rs⟩
end

abbrev NT : Addr → Prop := fun _ => True
theorem Rep.top {d : D} {v : V} (h : Rep G N H d v) : Rep G NT H d v := h.mono (fun _ _ _ => trivial) (Le.of (Same.refl H))
theorem Rep.same {d : D} {v : V} (h : Rep G N H d v) (s : Same H H') : Rep G N H' d v := h.mono (fun _ z _ => z) (Le.of s)
theorem Reps.same {ds : List D} {vs : List V} (h : Reps G N H ds vs) (s : Same H H') : Reps G N H' ds vs := h.mono (fun _ z _ => z) (Le.of s)
theorem Reps.length : ∀ {ds : List D} {vs : List V}, Reps G N H ds vs → vs.length = ds.length
  | [], _, h => by rw [show _ = [] from h]; rfl
  | _ :: ds, _, ⟨w, ws, e, _, rs⟩ => by rw [e, List.length_cons, List.length_cons, Reps.length rs]
theorem Reps.get : ∀ {ds : List D} {vs : List V} {i : Nat} {v : V}, Reps G N H ds vs → vs[i]? = some v → ∃ d, ds[i]? = some d ∧ Rep G N H d v
  | [], _, i, v, h, e => by rw [show _ = [] from h] at e; simp at e
  | d :: ds, _, 0, v, ⟨w, ws, e, r, _⟩, q => by subst e; simp at q; subst q; exact ⟨d, rfl, r⟩
  | d :: ds, _, i + 1, v, ⟨w, ws, e, _, rs⟩, q => by subst e; exact Reps.get (i := i) rs (by simpa using q)
theorem Reps.get' : ∀ {ds : List D} {vs : List V} {i : Nat} {d : D}, Reps G N H ds vs → ds[i]? = some d → ∃ v, vs[i]? = some v ∧ Rep G N H d v
  | [], _, i, d, h, e => by simp at e
  | d' :: ds, _, 0, d, ⟨w, ws, e, r, _⟩, q => by subst e; simp at q; subst q; exact ⟨w, rfl, r⟩
  | d' :: ds, _, i + 1, d, ⟨w, ws, e, _, rs⟩, q => by
    subst e
    obtain ⟨v, h1, h2⟩ := Reps.get' (i := i) rs (by simpa using q)
    exact ⟨v, by simpa using h1, h2⟩
theorem Reps.app : ∀ {ds es : List D} {vs ws : List V}, Reps G N H ds vs → Reps G N H es ws → Reps G N H (ds ++ es) (vs ++ ws)
  | [], _, _, _, h, h' => by rw [show _ = [] from h]; exact h'
  | _ :: _, _, _, _, ⟨w, ws, e, r, rs⟩, h' => by subst e; exact ⟨w, _, rfl, r, Reps.app rs h'⟩
theorem Reps.one {d : D} {v : V} (r : Rep G N H d v) : Reps G N H [d] [v] := ⟨v, [], rfl, r, rfl⟩
theorem Reps.cons {d : D} {v : V} {ds : List D} {vs : List V} (r : Rep G N H d v) (rs : Reps G N H ds vs) : Reps G N H (d :: ds) (v :: vs) := ⟨v, vs, rfl, r, rs⟩
theorem Reps.cons_inv {d : D} {v : V} {ds : List D} {vs : List V} (h : Reps G N H (d :: ds) (v :: vs)) : Rep G N H d v ∧ Reps G N H ds vs := by
  obtain ⟨w, ws, e, r, rs⟩ := h
  cases e
  exact ⟨r, rs⟩
end

/-! ### programs over data: what must hold so that an end is reached -/
abbrev W (ε α : Type) := (α → Prop) → (ε → Prop) → Prop
namespace W
variable {ε α β : Type}
def ret (a : α) : W ε α := fun Q _ => Q a
def bind (m : W ε α) (k : α → W ε β) : W ε β := fun Q E => m (fun a => k a Q E) E
def fail : W ε α := fun _ _ => False
def raise (e : ε) : W ε α := fun _ E => E e
def all {ι : Type} (p : ι → Prop) (k : ι → W ε α) : W ε α := fun Q E => ∀ i, p i → k i Q E
/-- nothing may be raised -/
def calm (m : W ε α) : W ε α := fun Q _ => m Q fun _ => False
/-- the exceptions by another type -/
def lift {δ : Type} (f : ε → δ) (m : W ε α) : W δ α := fun Q E => m Q fun e => E (f e)
structure Mono (m : W ε α) : Prop where
  run : ∀ {Q Q' : α → Prop} {E E' : ε → Prop}, (∀ a, Q a → Q' a) → (∀ e, E e → E' e) → m Q E → m Q' E'
theorem Mono.ret {a : α} : Mono (ret a : W ε α) := ⟨fun h _ q => h _ q⟩
theorem Mono.bind {m : W ε α} {k : α → W ε β} (hm : Mono m) (hk : ∀ a, Mono (k a)) : Mono (bind m k) := ⟨fun h g q => hm.run (fun a z => (hk a).run h g z) g q⟩
theorem Mono.fail : Mono (fail : W ε α) := ⟨fun _ _ q => q⟩
theorem Mono.raise {e : ε} : Mono (raise e : W ε α) := ⟨fun _ g q => g _ q⟩
theorem Mono.all {ι : Type} {p : ι → Prop} {k : ι → W ε α} (hk : ∀ i, Mono (k i)) : Mono (all p k) := ⟨fun h g q i hi => (hk i).run h g (q i hi)⟩
theorem Mono.calm {m : W ε α} (hm : Mono m) : Mono (calm m) := ⟨fun h _ q => hm.run h (fun _ z => z) q⟩
theorem Mono.lift {δ : Type} {f : ε → δ} {m : W ε α} (hm : Mono m) : Mono (lift f m) := ⟨fun h g q => hm.run h (fun _ z => g _ z) q⟩
end W

/-- an exception of a class with its own fields -/
structure Ex where
  cls : Str
  fs : List (Str × D)

/-- the addresses of N, and new ones -/
def Fr (N : Addr → Prop) (H : Hp) : Addr → Prop := fun a => N a ∨ H a = none
theorem Fr.of {N : Addr → Prop} {H : Hp} {a : Addr} (h : N a) : Fr N H a := .inl h
theorem Fr.step {N : Addr → Prop} {H H1 : Hp} (s : Same H H1) {a : Addr} (h : Fr N H1 a) : Fr N H a := h.elim .inl fun z => .inr (s.free z)
theorem Fr.fr {N : Addr → Prop} {H H1 : Hp} (s : Same H H1) {a : Addr} (h : Fr (Fr N H) H1 a) : Fr N H a := h.elim id fun z => .inr (s.free z)

/-- how an exception lies -/
def XRep (G : Wd) (N : Addr → Prop) (H : Hp) (x : Ex) (cls : Value) (dd : Option Addr) : Prop :=
  (G.mg x.cls = some cls ∨ (G.mg x.cls = none ∧ bootBuiltins x.cls = some cls)) ∧ (x.fs = [] ∨ ∃ d gs, dd = some d ∧ H d = some (.xd gs) ∧ RepF G N H x.fs gs)
theorem XRep.mono {G : Wd} {N N' : Addr → Prop} {H : Hp} {x : Ex} {c : Value} {dd : Option Addr} (h : XRep G N H x c dd) (hN : ∀ a, N a → N' a) : XRep G N' H x c dd :=
  ⟨h.1, h.2.elim .inl fun ⟨d, gs, e, q, r⟩ => .inr ⟨d, gs, e, q, r.mono (fun a z _ => hN a z) (Le.of (Same.refl H))⟩⟩

abbrev Ro := List (Option D)
/-- the slots' data, as an expression sees them -/
def ERel (G : Wd) (N : Addr → Prop) (H : Hp) (σ : Fb.St) (ρ : Ro) : Prop := ∀ (i : Nat) (d : D), ρ[i]? = some (some d) → ∃ v, σ[i]? = some (some v) ∧ Rep G N H d v
theorem ERel.same {G : Wd} {N : Addr → Prop} {H H' : Hp} {σ : Fb.St} {ρ : Ro} (h : ERel G N H σ ρ) (s : Same H H') : ERel G N H' σ ρ := fun i d e =>
  let ⟨v, e', r⟩ := h i d e
  ⟨v, e', r.same s⟩
theorem Rep.sub {G : Wd} {N N' : Addr → Prop} {H : Hp} {d : D} {v : V} (h : Rep G N H d v) (hN : ∀ a, N a → N' a) : Rep G N' H d v := h.mono (fun a z _ => hN a z) (Le.of (Same.refl H))
theorem Reps.sub {G : Wd} {N N' : Addr → Prop} {H : Hp} {d : List D} {v : List V} (h : Reps G N H d v) (hN : ∀ a, N a → N' a) : Reps G N' H d v := h.mono (fun a z _ => hN a z) (Le.of (Same.refl H))

/-- what is wanted behind an expression -/
def PoE (G : Wd) (N : Addr → Prop) (H : Hp) (Q : VK) (d : D) : Prop := ∀ v H', Same H H' → Rep G (Fr N H) H' d v → Q v H'
def PoX (G : Wd) (N : Addr → Prop) (Wx : WX) (H : Hp) (σ : Fb.St) (x : Ex) : Prop := ∀ c dd H', Same H H' → XRep G (Fr N H) H' x c dd → Wx c dd σ H'
theorem PoX.step {G : Wd} {N : Addr → Prop} {Wx : WX} {H H1 : Hp} {σ : Fb.St} {x : Ex} (h : PoX G N Wx H σ x) (s : Same H H1) : PoX G N Wx H1 σ x := fun c dd H' s' r => h c dd H' (s.trans s') (r.mono fun _ z => z.step s)

def tE (G : Wd) (Wx : WX) (m : Ro → W Ex D) : TE := fun σ H Q => ∃ N ρ, ERel G N H σ ρ ∧ m ρ (PoE G N H Q) (PoX G N Wx H σ)
/-- the expression e means m -/
structure DE (G : Wd) (X : Cx) (Wx : WX) (e : Expr) (m : Ro → W Ex D) : Prop where
  pe : PE X e (tE G Wx m)
  mono : ∀ ρ, W.Mono (m ρ)
def PoT (H : Hp) (Q : Bool → Hp → Prop) (b : Bool) : Prop := ∀ H', Same H H' → Q b H'
def tT (G : Wd) (Wx : WX) (m : Ro → W Ex Bool) : TT := fun σ H Q => ∃ N ρ, ERel G N H σ ρ ∧ m ρ (PoT H Q) (PoX G N Wx H σ)
/-- the test e means m -/
structure DT (G : Wd) (X : Cx) (Wx : WX) (e : Expr) (m : Ro → W Ex Bool) : Prop where
  pt : PT X e (tT G Wx m)
  mono : ∀ ρ, W.Mono (m ρ)
def PoA (G : Wd) (N : Addr → Prop) (H : Hp) (Q : List V → Hp → Prop) (ds : List D) : Prop := ∀ vs H', Same H H' → Reps G (Fr N H) H' ds vs → Q vs H'
def tA (G : Wd) (Wx : WX) (m : Ro → W Ex (List D)) : TA := fun σ H Q => ∃ N ρ, ERel G N H σ ρ ∧ m ρ (PoA G N H Q) (PoX G N Wx H σ)
/-- the arguments es mean m -/
structure DA (G : Wd) (X : Cx) (Wx : WX) (es : List Expr) (m : Ro → W Ex (List D)) : Prop where
  pa : PA X es (tA G Wx m)
  mono : ∀ ρ, W.Mono (m ρ)
/-- a list or dict that stands alone at a; what is in it lies in N -/
def OwnT (G : Wd) (N : Addr → Prop) (H : Hp) (a : Addr) : D → Prop
  | .lst ds => ∃ vs, H a = some (.lst vs) ∧ Reps G N H ds vs
  | .dic kvs => ∃ ks, H a = some (.dK ks) ∧ RepK G N H kvs ks
  | _ => False
def Fresh (G : Wd) (N : Addr → Prop) (H H' : Hp) (d : D) (v : V) : Prop := ∃ a, v = .ref a ∧ H a = none ∧ OwnT G (fun b => N b ∧ b ≠ a) H' a d
def PoR (G : Wd) (N : Addr → Prop) (H : Hp) (Q : VK) (r : Bool × D) : Prop := ∀ v H', Same H H' → Rep G (Fr N H) H' r.2 v → (r.1 = true → Fresh G (Fr N H) H H' r.2 v) → Q v H'
def tR (G : Wd) (Wx : WX) (m : Ro → W Ex (Bool × D)) : TE := fun σ H Q => ∃ N ρ, ERel G N H σ ρ ∧ m ρ (PoR G N H Q) (PoX G N Wx H σ)
/-- .. and whether the value is new, nobody's but its holder's -/
structure DR (G : Wd) (X : Cx) (Wx : WX) (e : Expr) (m : Ro → W Ex (Bool × D)) : Prop where
  pe : PE X e (tR G Wx m)
  mono : ∀ ρ, W.Mono (m ρ)

section
variable {G : Wd} {X : Cx} {Wx : WX}
theorem DE.imp {e : Expr} {m : Ro → W Ex D} {t : TE} (mono : ∀ ρ, W.Mono (m ρ)) (h : PE X e t) (i : ∀ N ρ σ H Q, ERel G N H σ ρ → m ρ (PoE G N H Q) (PoX G N Wx H σ) → t σ H Q) : DE G X Wx e m :=
  ⟨⟨fun pins s σ H Q I ⟨N, ρ, r, q⟩ => h.run pins s σ H Q I (i N ρ σ H Q r q)⟩, mono⟩
theorem DT.imp {e : Expr} {m : Ro → W Ex Bool} {t : TT} (mono : ∀ ρ, W.Mono (m ρ)) (h : PT X e t) (i : ∀ N ρ σ H Q, ERel G N H σ ρ → m ρ (PoT H Q) (PoX G N Wx H σ) → t σ H Q) : DT G X Wx e m :=
  ⟨⟨fun pins s σ H Q I ⟨N, ρ, r, q⟩ => h.run pins s σ H Q I (i N ρ σ H Q r q)⟩, mono⟩
theorem DA.imp {e : List Expr} {m : Ro → W Ex (List D)} {t : TA} (mono : ∀ ρ, W.Mono (m ρ)) (h : PA X e t) (i : ∀ N ρ σ H Q, ERel G N H σ ρ → m ρ (PoA G N H Q) (PoX G N Wx H σ) → t σ H Q) : DA G X Wx e m :=
  ⟨⟨fun pos pins s σ H Q I ⟨N, ρ, r, q⟩ => h.run pos pins s σ H Q I (i N ρ σ H Q r q)⟩, mono⟩
theorem DR.imp {e : Expr} {m : Ro → W Ex (Bool × D)} {t : TE} (mono : ∀ ρ, W.Mono (m ρ)) (h : PE X e t) (i : ∀ N ρ σ H Q, ERel G N H σ ρ → m ρ (PoR G N H Q) (PoX G N Wx H σ) → t σ H Q) : DR G X Wx e m :=
  ⟨⟨fun pins s σ H Q I ⟨N, ρ, r, q⟩ => h.run pins s σ H Q I (i N ρ σ H Q r q)⟩, mono⟩
/-- what comes first is done: go on at the grown heap -/
theorem DE.go {e : Expr} {m : Ro → W Ex D} (h : DE G X Wx e m) {N : Addr → Prop} {ρ : Ro} {σ : Fb.St} {H : Hp} {Q : VK} (r : ERel G N H σ ρ) {P : D → Prop} {E : Ex → Prop} (q : m ρ P E)
    (hE : ∀ x, E x → PoX G N Wx H σ x) (hP : ∀ d v H1, P d → Same H H1 → Rep G (Fr N H) H1 d v → ERel G N H1 σ ρ → Q v H1) : tE G Wx m σ H Q :=
  ⟨N, ρ, r, (h.mono ρ).run (fun d z v H1 s1 r1 => hP d v H1 z s1 r1 (r.same s1)) hE q⟩
theorem DT.go {e : Expr} {m : Ro → W Ex Bool} (h : DT G X Wx e m) {N : Addr → Prop} {ρ : Ro} {σ : Fb.St} {H : Hp} {Q : Bool → Hp → Prop} (r : ERel G N H σ ρ) {P : Bool → Prop} {E : Ex → Prop} (q : m ρ P E)
    (hE : ∀ x, E x → PoX G N Wx H σ x) (hP : ∀ b H1, P b → Same H H1 → ERel G N H1 σ ρ → Q b H1) : tT G Wx m σ H Q :=
  ⟨N, ρ, r, (h.mono ρ).run (fun b z H1 s1 => hP b H1 z s1 (r.same s1)) hE q⟩
theorem DA.go {e : List Expr} {m : Ro → W Ex (List D)} (h : DA G X Wx e m) {N : Addr → Prop} {ρ : Ro} {σ : Fb.St} {H : Hp} {Q : List V → Hp → Prop} (r : ERel G N H σ ρ) {P : List D → Prop} {E : Ex → Prop} (q : m ρ P E)
    (hE : ∀ x, E x → PoX G N Wx H σ x) (hP : ∀ d v H1, P d → Same H H1 → Reps G (Fr N H) H1 d v → ERel G N H1 σ ρ → Q v H1) : tA G Wx m σ H Q :=
  ⟨N, ρ, r, (h.mono ρ).run (fun d z v H1 s1 r1 => hP d v H1 z s1 r1 (r.same s1)) hE q⟩
theorem DR.de {e : Expr} {m : Ro → W Ex (Bool × D)} (h : DR G X Wx e m) : DE G X Wx e (fun ρ => W.bind (m ρ) fun r => W.ret r.2) :=
  DE.imp (fun ρ => (h.mono ρ).bind fun _ => W.Mono.ret) h.pe fun N ρ σ H Q r q => ⟨N, ρ, r, (h.mono ρ).run (fun _ z v H1 s1 r1 _ => z v H1 s1 r1) (fun _ z => z) q⟩
theorem DE.dr {e : Expr} {m : Ro → W Ex D} (h : DE G X Wx e m) : DR G X Wx e (fun ρ => W.bind (m ρ) fun d => W.ret (false, d)) :=
  DR.imp (fun ρ => (h.mono ρ).bind fun _ => W.Mono.ret) h.pe fun N ρ σ H Q r q => ⟨N, ρ, r, (h.mono ρ).run (fun _ z v H1 s1 r1 => z v H1 s1 r1 fun y => nomatch y) (fun _ z => z) q⟩

/-! ### names, constants -/
def gotD : Option (Option D) → W Ex D
  | some (some d) => W.ret d
  | _ => W.fail
theorem gotD_mono (o : Option (Option D)) : W.Mono (gotD o) := by
  rcases o with _ | _ | d
  · exact W.Mono.fail
  · exact W.Mono.fail
  · exact W.Mono.ret
theorem gotD_inv {o : Option (Option D)} {P : D → Prop} {E : Ex → Prop} (h : gotD o P E) : ∃ d, o = some (some d) ∧ P d := by
  rcases o with _ | _ | d
  · exact h.elim
  · exact h.elim
  · exact ⟨d, rfl, h⟩
def mVar (i : Nat) : Ro → W Ex D := fun ρ => gotD ρ[i]?
theorem de_var (i : Nat) {x : Str} {pos : Pos} (h : PE X (.Name x pos) (tVar i)) : DE G X Wx (.Name x pos) (mVar i) := by
  refine DE.imp (fun ρ => gotD_mono _) h fun N ρ σ H Q r q => ?_
  obtain ⟨d, e, q⟩ := gotD_inv q
  obtain ⟨v, e1, r1⟩ := r i d e
  exact ⟨v, e1, q v H (Same.refl H) (r1.sub fun _ => Fr.of)⟩
def mC (d : D) : Ro → W Ex D := fun _ => W.ret d
theorem de_const {e : Expr} {v : V} {d : D} (h : PE X e (tC v)) (r : ∀ N H, Rep G N H d v) : DE G X Wx e (mC d) :=
  DE.imp (fun _ => W.Mono.ret) h fun N ρ σ H Q _ q => q v H (Same.refl H) (r _ _)
theorem de_int {i j pos} : DE G X Wx (.Constant (.int i) j pos) (mC (.int i)) := de_const pe_int fun _ _ => rfl
theorem de_bl {i j pos} : DE G X Wx (.Constant (.bool i) j pos) (mC (.bl i)) := de_const pe_bl fun _ _ => rfl
theorem de_non {j pos} : DE G X Wx (.Constant .none j pos) (mC .non) := de_const pe_non fun _ _ => rfl
theorem de_str {i j pos} : DE G X Wx (.Constant (.str i) j pos) (mC (.str i)) := de_const pe_str fun _ _ => rfl

/-! ### arguments -/
def mNil : Ro → W Ex (List D) := fun _ => W.ret []
def mCons (m : Ro → W Ex D) (n : Ro → W Ex (List D)) : Ro → W Ex (List D) := fun ρ => W.bind (m ρ) fun d => W.bind (n ρ) fun ds => W.ret (d :: ds)
theorem da_nil : DA G X Wx [] mNil := DA.imp (fun _ => W.Mono.ret) pa_nil fun N ρ σ H Q _ q => q [] H (Same.refl H) rfl
theorem da_cons {e : Expr} {es : List Expr} {m : Ro → W Ex D} {n : Ro → W Ex (List D)} (h : DE G X Wx e m) (hs : DA G X Wx es n) (st : starEach (e :: es) X.env = (false, eval e X.env) :: starEach es X.env := by rfl) :
    DA G X Wx (e :: es) (mCons m n) := by
  refine DA.imp (fun ρ => (h.mono ρ).bind fun d => (hs.mono ρ).bind fun ds => W.Mono.ret) (pa_cons h.pe hs.pa st) fun N ρ σ H Q r q => ?_
  refine h.go r q (fun x z => z) fun d v H1 z s1 r1 rr => ?_
  refine hs.go rr z (fun x z => z.step s1) fun ds vs H2 z s2 r2 _ => ?_
  exact z (v :: vs) H2 (s1.trans s2) (.cons (r1.same s2) (r2.sub fun _ z => z.step s1))

/-! ### operators, by values -/
/-- g tells what f does on data -/
def DOp (G : Wd) (X : Cx) (r : R2) (g : D → D → W Ex D) : Prop :=
  (∀ a b, W.Mono (g a b)) ∧ ∀ N H a b x y Q, Rep G N H a x → Rep G N H b y → g a b (fun d => ∀ v H', Same H H' → Rep G (Fr N H) H' d v → Q v H') (fun _ => False) → r x y H Q
def mOp (g : D → D → W Ex D) (m n : Ro → W Ex D) : Ro → W Ex D := fun ρ => W.bind (m ρ) fun a => W.bind (n ρ) fun b => W.calm (g a b)
theorem op_two {a b : Expr} {m n : Ro → W Ex D} {r : R2} {g : D → D → W Ex D} (hg : DOp G X r g) (ha : DE G X Wx a m) (hb : DE G X Wx b n) {N : Addr → Prop} {ρ : Ro} {σ : Fb.St} {H : Hp} {Q : VK} (rr : ERel G N H σ ρ)
    (q : mOp g m n ρ (PoE G N H Q) (PoX G N Wx H σ)) : tOp r (tE G Wx m) (tE G Wx n) σ H Q := by
  refine ha.go rr q (fun x z => z) fun d v H1 z s1 r1 rr1 => ?_
  refine hb.go rr1 z (fun x z => z.step s1) fun e u H2 z s2 r2 rr2 => ?_
  refine hg.2 (Fr N H) H2 d e v u Q (r1.same s2) (r2.sub fun _ z => z.step s1) ?_
  exact (hg.1 d e).run (fun d z v H' s r => z v H' ((s1.trans s2).trans s) (r.sub fun _ y => y.fr (s1.trans s2))) (fun _ z => z) z
theorem mOp_mono {a b : Expr} {m n : Ro → W Ex D} {r : R2} {g : D → D → W Ex D} (hg : DOp G X r g) (ha : DE G X Wx a m) (hb : DE G X Wx b n) (ρ : Ro) : W.Mono (mOp g m n ρ) :=
  (ha.mono ρ).bind fun d => (hb.mono ρ).bind fun e => (hg.1 d e).calm
theorem de_op {op : Operator} {a b : Expr} {m n : Ro → W Ex D} {r : R2} {g : D → D → W Ex D} {pos : Pos} (ho : OpR X (binaryOp op) r) (hg : DOp G X r g) (ha : DE G X Wx a m) (hb : DE G X Wx b n) : DE G X Wx (.BinOp a op b pos) (mOp g m n) :=
  DE.imp (mOp_mono hg ha hb) (pe_op ho ha.pe hb.pe) fun N ρ σ H Q rr q => op_two hg ha hb rr q
theorem de_cmp {op : CmpOp} {a b : Expr} {m n : Ro → W Ex D} {r : R2} {g : D → D → W Ex D} {pos : Pos} (ho : OpR X (compareOp op) r) (hg : DOp G X r g) (ha : DE G X Wx a m) (hb : DE G X Wx b n) (hm : behindInMarks op b = false) : DE G X Wx (.Compare a [op] [b] pos) (mOp g m n) :=
  DE.imp (mOp_mono hg ha hb) (pe_cmpR ho ha.pe hb.pe hm) fun N ρ σ H Q rr q => op_two hg ha hb rr q
end
end Fb
end

section
set_option Elab.async false
set_option linter.all false
set_option maxRecDepth 100000
set_option maxHeartbeats 4000000
/-! Statements over data; which slots hold a list or dict alone. -/
namespace Fb
open PySem PySem.Spec PyProof.Rows L2

/-- what can be changed -/
def isM : HO → Prop
  | .lst _ => True
  | .dK _ => True
  | _ => False

mutual
/-- nothing that can be changed is in it -/
def imm : D → Bool
  | .tup xs => imms xs
  | .lst _ => false
  | .dic _ => false
  | .ins _ fs => immF fs
  | .non => true
  | .bl _ => true
  | .int _ => true
  | .str _ => true
  | .box _ => true
  | .ty _ => true
  | .cls _ => true
  | .raw _ => true
  | .scr _ => true
def imms : List D → Bool
  | [] => true
  | x :: xs => imm x && imms xs
def immF : List (Str × D) → Bool
  | [] => true
  | (_, x) :: xs => imm x && immF xs
end
def immK : List (Key × D) → Bool
  | [] => true
  | (_, x) :: xs => imm x && immK xs
/-- what is in a list or dict can't be changed -/
def immTop : D → Bool
  | .lst ds => imms ds
  | .dic kvs => immK kvs
  | d => imm d
section
variable {G : Wd} {N N' : Addr → Prop} {H : Hp}
theorem and_l {a b : Bool} (h : (a && b) = true) : a = true := (Bool.and_eq_true_iff.mp h).1
theorem and_r {a b : Bool} (h : (a && b) = true) : b = true := (Bool.and_eq_true_iff.mp h).2
mutual
theorem Rep.imm : ∀ {d : D} {v : V}, imm d = true → Rep G N H d v → Rep G N' H d v
  | .non, _, _, h => h
  | .bl _, _, _, h => h
  | .int _, _, _, h => h
  | .str _, _, _, h => h
  | .tup ds, _, i, ⟨a, vs, e, q, r⟩ => ⟨a, vs, e, q, Reps.imm (by simpa [Fb.imm] using i) r⟩
  | .lst ds, _, i, _ => by simp [Fb.imm] at i
  | .dic kvs, _, i, _ => by simp [Fb.imm] at i
  | .ins c fs, _, i, ⟨a, C, dx, gs, e, m, q, r⟩ => ⟨a, C, dx, gs, e, m, q, RepF.imm (by simpa [Fb.imm] using i) r⟩
  | .box n, _, _, h => h
  | .ty n, _, _, h => h
  | .cls n, _, _, h => h
  | .raw n, _, _, h => h
  | .scr n, _, _, h => h
theorem Reps.imm : ∀ {ds : List D} {vs : List V}, imms ds = true → Reps G N H ds vs → Reps G N' H ds vs
  | [], _, _, h => h
  | _ :: _, _, i, ⟨w, ws, e, r, rs⟩ => ⟨w, ws, e, Rep.imm (and_l (by simpa [imms] using i)) r, Reps.imm (and_r (by simpa [imms] using i)) rs⟩
theorem RepF.imm : ∀ {ds : List (Str × D)} {vs : List (Str × V)}, immF ds = true → RepF G N H ds vs → RepF G N' H ds vs
  | [], _, _, h => h
  | (_, _) :: _, _, i, ⟨w, ws, e, r, rs⟩ => ⟨w, ws, e, Rep.imm (and_l (by simpa [immF] using i)) r, RepF.imm (and_r (by simpa [immF] using i)) rs⟩
end
theorem RepK.imm : ∀ {ds : List (Key × D)} {vs : List (Key × V)}, immK ds = true → RepK G N H ds vs → RepK G N' H ds vs
  | [], _, _, h => h
  | (_, _) :: _, _, i, ⟨w, ws, e, r, rs⟩ => ⟨w, ws, e, Rep.imm (and_l (by simpa [immK] using i)) r, RepK.imm (and_r (by simpa [immK] using i)) rs⟩
theorem OwnT.mono {H' : Hp} {a : Addr} {d : D} (hN : ∀ b, N b → H b ≠ none → N' b) (hs : Same H H') (h : OwnT G N H a d) : OwnT G N' H' a d := by
  cases d with
  | lst ds => obtain ⟨vs, e, r⟩ := h; exact ⟨vs, hs _ _ e, r.mono hN (Le.of hs)⟩
  | dic ds => obtain ⟨vs, e, r⟩ := h; exact ⟨vs, hs _ _ e, RepK.mono hN (Le.of hs) r⟩
  | _ => exact h.elim
theorem OwnT.imm {a : Addr} {d : D} (i : immTop d = true) (h : OwnT G N H a d) : OwnT G N' H a d := by
  cases d with
  | lst ds => obtain ⟨vs, e, r⟩ := h; exact ⟨vs, e, Reps.imm i r⟩
  | dic ds => obtain ⟨vs, e, r⟩ := h; exact ⟨vs, e, RepK.imm i r⟩
  | _ => exact h.elim
theorem OwnT.some {a : Addr} {d : D} (h : OwnT G N H a d) : H a ≠ none := by
  cases d with
  | lst ds => obtain ⟨vs, e, r⟩ := h; rw [e]; exact fun z => nomatch z
  | dic ds => obtain ⟨vs, e, r⟩ := h; rw [e]; exact fun z => nomatch z
  | _ => exact h.elim
theorem OwnT.kind {a : Addr} {d : D} (h : OwnT G N H a d) : ∃ o, H a = Option.some o ∧ isM o := by
  cases d with
  | lst ds => obtain ⟨vs, e, r⟩ := h; exact ⟨_, e, trivial⟩
  | dic ds => obtain ⟨vs, e, r⟩ := h; exact ⟨_, e, trivial⟩
  | _ => exact h.elim
theorem OwnT.rep {a : Addr} {d : D} (ha : N a) (h : OwnT G N H a d) : Rep G N H d (.ref a) := by
  cases d with
  | lst ds => obtain ⟨vs, e, r⟩ := h; exact ⟨a, vs, rfl, ha, e, r⟩
  | dic ds => obtain ⟨vs, e, r⟩ := h; exact ⟨a, vs, rfl, ha, .inl e, r⟩
  | _ => exact h.elim
end

abbrev En := List (Option (Bool × D))
def seeFrom (fz : List Nat) : Nat → En → Ro
  | _, [] => []
  | i, none :: r => none :: seeFrom fz (i + 1) r
  | i, some (b, d) :: r => (if b && !(fz.contains i) then none else some d) :: seeFrom fz (i + 1) r
/-- what an expression sees: slots that are not held alone, and those at fz -/
def see (fz : List Nat) (ρ : En) : Ro := seeFrom fz 0 ρ
def frzFrom (fz : List Nat) : Nat → En → En
  | _, [] => []
  | i, none :: r => none :: frzFrom fz (i + 1) r
  | i, some (b, d) :: r => some (b && !(fz.contains i), d) :: frzFrom fz (i + 1) r
/-- those at fz are held alone no more -/
def frz (fz : List Nat) (ρ : En) : En := frzFrom fz 0 ρ
def roFrom : En → Ro
  | [] => []
  | none :: r => none :: roFrom r
  | some (_, d) :: r => some d :: roFrom r
/-- all slots -/
def ro (ρ : En) : Ro := roFrom ρ
theorem seeFrom_at {fz : List Nat} : ∀ {ρ : En} {k i : Nat} {d : D}, (seeFrom fz k ρ)[i]? = some (some d) → ∃ b, ρ[i]? = some (some (b, d)) ∧ (b = false ∨ k + i ∈ fz)
  | [], _, _, _, h => by simp [seeFrom] at h
  | none :: r, k, 0, d, h => by simp [seeFrom] at h
  | some (b, d') :: r, k, 0, d, h => by
    simp only [seeFrom, List.getElem?_cons_zero, Option.some.injEq] at h
    split at h
    · cases h
    · rename_i q
      cases h
      refine ⟨b, rfl, ?_⟩
      cases b with
      | false => exact .inl rfl
      | true =>
        refine .inr ?_
        simpa using q
  | none :: r, k, i + 1, d, h => by
    obtain ⟨b, e, q⟩ := seeFrom_at (ρ := r) (k := k + 1) (i := i) (by simpa [seeFrom] using h)
    exact ⟨b, by simpa using e, by rwa [Nat.add_assoc, Nat.add_comm 1 i] at q⟩
  | some (b', d') :: r, k, i + 1, d, h => by
    obtain ⟨b, e, q⟩ := seeFrom_at (ρ := r) (k := k + 1) (i := i) (by simpa [seeFrom] using h)
    exact ⟨b, by simpa using e, by rwa [Nat.add_assoc, Nat.add_comm 1 i] at q⟩
theorem see_at {fz : List Nat} {ρ : En} {i : Nat} {d : D} (h : (see fz ρ)[i]? = some (some d)) : ∃ b, ρ[i]? = some (some (b, d)) ∧ (b = false ∨ i ∈ fz) := by
  obtain ⟨b, e, q⟩ := seeFrom_at h
  exact ⟨b, e, by rwa [Nat.zero_add] at q⟩
theorem frzFrom_at {fz : List Nat} : ∀ {ρ : En} {k i : Nat} {b : Bool} {d : D}, (frzFrom fz k ρ)[i]? = some (some (b, d)) → ∃ b', ρ[i]? = some (some (b', d)) ∧ b = (b' && !(fz.contains (k + i)))
  | [], _, _, _, _, h => by simp [frzFrom] at h
  | none :: r, k, 0, b, d, h => by simp [frzFrom] at h
  | some (b', d') :: r, k, 0, b, d, h => by
    simp only [frzFrom, List.getElem?_cons_zero, Option.some.injEq, Prod.mk.injEq] at h
    exact ⟨b', by simp [h.2], h.1.symm⟩
  | none :: r, k, i + 1, b, d, h => by
    obtain ⟨b', e, q⟩ := frzFrom_at (ρ := r) (k := k + 1) (i := i) (by simpa [frzFrom] using h)
    exact ⟨b', by simpa using e, by rwa [Nat.add_assoc, Nat.add_comm 1 i] at q⟩
  | some (b'', d') :: r, k, i + 1, b, d, h => by
    obtain ⟨b', e, q⟩ := frzFrom_at (ρ := r) (k := k + 1) (i := i) (by simpa [frzFrom] using h)
    exact ⟨b', by simpa using e, by rwa [Nat.add_assoc, Nat.add_comm 1 i] at q⟩
theorem frz_at {fz : List Nat} {ρ : En} {i : Nat} {b : Bool} {d : D} (h : (frz fz ρ)[i]? = some (some (b, d))) : ∃ b', ρ[i]? = some (some (b', d)) ∧ b = (b' && !(fz.contains i)) := by
  obtain ⟨b', e, q⟩ := frzFrom_at h
  exact ⟨b', e, by rwa [Nat.zero_add] at q⟩
theorem frzFrom_len {fz : List Nat} : ∀ {ρ : En} {k : Nat}, (frzFrom fz k ρ).length = ρ.length
  | [], _ => rfl
  | none :: r, k => congrArg (· + 1) (frzFrom_len (ρ := r) (k := k + 1))
  | some _ :: r, k => congrArg (· + 1) (frzFrom_len (ρ := r) (k := k + 1))
theorem frz_len {fz : List Nat} {ρ : En} : (frz fz ρ).length = ρ.length := frzFrom_len
theorem roFrom_at : ∀ {ρ : En} {i : Nat} {d : D}, (roFrom ρ)[i]? = some (some d) → ∃ b, ρ[i]? = some (some (b, d))
  | [], _, _, h => by simp [roFrom] at h
  | none :: r, 0, d, h => by simp [roFrom] at h
  | some (b, d') :: r, 0, d, h => by
    simp only [roFrom, List.getElem?_cons_zero, Option.some.injEq] at h
    exact ⟨b, by simp [h]⟩
  | none :: r, i + 1, d, h => roFrom_at (ρ := r) (i := i) (by simpa [roFrom] using h)
  | some (b', d') :: r, i + 1, d, h => roFrom_at (ρ := r) (i := i) (by simpa [roFrom] using h)

/-- not among the addresses that are held alone -/
def Out (N0 : Addr → Prop) (H0 : Hp) (S : Nat → Option Addr) : Addr → Prop := fun a => Fr N0 H0 a ∧ ∀ j, S j ≠ some a
structure OwnOk (G : Wd) (H0 : Hp) (N0 : Addr → Prop) (S : Nat → Option Addr) (σ : Fb.St) (H : Hp) (ρ : En) : Prop where
  new : ∀ (i : Nat) (a : Addr), S i = some a → H0 a = none ∧ H a ≠ none
  kind : ∀ (i : Nat) (a : Addr), S i = some a → ∃ o, H a = some o ∧ isM o
  inj : ∀ (i j : Nat) (a : Addr), S i = some a → S j = some a → i = j
  shr : ∀ (i : Nat) (d : D), ρ[i]? = some (some (false, d)) → ∃ v, σ[i]? = some (some v) ∧ Rep G (Out N0 H0 S) H d v
  own : ∀ (i : Nat) (d : D), ρ[i]? = some (some (true, d)) → ∃ a, σ[i]? = some (some (.ref a)) ∧ S i = some a ∧ OwnT G (Out N0 H0 S) H a d
/-- the slots' data as a statement knows them; H0: what stands still -/
structure SRel (G : Wd) (H0 : Hp) (N0 : Addr → Prop) (σ : Fb.St) (H : Hp) (ρ : En) : Prop where
  same : Same H0 H
  len : ρ.length = σ.length
  own : ∃ S, OwnOk G H0 N0 S σ H ρ

section
variable {G : Wd} {H0 H H1 : Hp} {N0 : Addr → Prop} {S : Nat → Option Addr} {σ : Fb.St} {ρ : En}
def cut (fz : List Nat) (S : Nat → Option Addr) : Nat → Option Addr := fun i => if fz.contains i then none else S i
theorem cut_some {fz : List Nat} {S : Nat → Option Addr} {i : Nat} {a : Addr} (h : cut fz S i = some a) : S i = some a ∧ i ∉ fz := by
  unfold cut at h
  split at h
  · cases h
  · rename_i q
    exact ⟨h, by simpa using q⟩
theorem Out.cut {fz : List Nat} {a : Addr} (h : Out N0 H0 S a) : Out N0 H0 (cut fz S) a := ⟨h.1, fun j z => h.2 j (cut_some z).1⟩
theorem OwnOk.sees (o : OwnOk G H0 N0 S σ H ρ) (fz : List Nat) : ERel G (Out N0 H0 (cut fz S)) H σ (see fz ρ) := fun i d e => by
  obtain ⟨b, e, q⟩ := see_at e
  cases b with
  | false =>
    obtain ⟨v, e1, r⟩ := o.shr i d e
    exact ⟨v, e1, r.sub fun _ => Out.cut⟩
  | true =>
    have hi : i ∈ fz := q.elim (fun z => nomatch z) id
    obtain ⟨a, e1, e2, r⟩ := o.own i d e
    refine ⟨_, e1, (r.mono (fun b z _ => Out.cut z) (Same.refl H)).rep ⟨.inr (o.new i a e2).1, fun j z => ?_⟩⟩
    obtain ⟨z1, z2⟩ := cut_some z
    exact z2 (o.inj i j a e2 z1 ▸ hi)
theorem Out.fr {a : Addr} (h : Out N0 H0 S a) : Fr N0 H0 a := h.1
theorem SRel.ro (s : SRel G H0 N0 σ H ρ) : ERel G (Fr N0 H0) H σ (ro ρ) := fun i d e => by
  obtain ⟨S, o⟩ := s.own
  obtain ⟨b, e⟩ := roFrom_at e
  cases b with
  | false =>
    obtain ⟨v, e1, r⟩ := o.shr i d e
    exact ⟨v, e1, r.sub fun _ => Out.fr⟩
  | true =>
    obtain ⟨a, e1, e2, r⟩ := o.own i d e
    exact ⟨_, e1, (r.mono (fun b z _ => Out.fr z) (Same.refl H)).rep (.inr (o.new i a e2).1)⟩
theorem OwnOk.same (o : OwnOk G H0 N0 S σ H ρ) (s : Same H H1) : OwnOk G H0 N0 S σ H1 ρ where
  new := fun i a e => ⟨(o.new i a e).1, fun z => (o.new i a e).2 (s.free z)⟩
  kind := fun i a e => let ⟨u, h, k⟩ := o.kind i a e; ⟨u, s _ _ h, k⟩
  inj := o.inj
  shr := fun i d e => let ⟨v, e1, r⟩ := o.shr i d e; ⟨v, e1, r.same s⟩
  own := fun i d e => let ⟨a, e1, e2, r⟩ := o.own i d e; ⟨a, e1, e2, r.mono (fun _ z _ => z) s⟩
theorem SRel.step (x : SRel G H0 N0 σ H ρ) (s : Same H H1) : SRel G H0 N0 σ H1 ρ :=
  ⟨x.same.trans s, x.len, let ⟨S, o⟩ := x.own; ⟨S, o.same s⟩⟩
/-- those at fz are held alone no more -/
theorem OwnOk.frz (o : OwnOk G H0 N0 S σ H ρ) (fz : List Nat) : OwnOk G H0 N0 (cut fz S) σ H (frz fz ρ) where
  new := fun i a e => o.new i a (cut_some e).1
  kind := fun i a e => o.kind i a (cut_some e).1
  inj := fun i j a e1 e2 => o.inj i j a (cut_some e1).1 (cut_some e2).1
  shr := fun i d e => by
    obtain ⟨b', e, q⟩ := frz_at e
    cases b' with
    | false =>
      obtain ⟨v, e1, r⟩ := o.shr i d e
      exact ⟨v, e1, r.sub fun _ => Out.cut⟩
    | true =>
      have hi : i ∈ fz := by simpa using q
      obtain ⟨a, e1, e2, r⟩ := o.own i d e
      refine ⟨_, e1, (r.mono (fun b z _ => Out.cut z) (Same.refl H)).rep ⟨.inr (o.new i a e2).1, fun j z => ?_⟩⟩
      obtain ⟨z1, z2⟩ := cut_some z
      exact z2 (o.inj i j a e2 z1 ▸ hi)
  own := fun i d e => by
    obtain ⟨b', e, q⟩ := frz_at e
    cases b' with
    | false => cases q
    | true =>
      have hi : i ∉ fz := by simpa using q
      obtain ⟨a, e1, e2, r⟩ := o.own i d e
      refine ⟨a, e1, ?_, r.mono (fun b z _ => Out.cut z) (Same.refl H)⟩
      unfold Fb.cut
      rw [if_neg (by simpa using hi)]
      exact e2
theorem SRel.frz (x : SRel G H0 N0 σ H ρ) (fz : List Nat) : SRel G H0 N0 σ H (frz fz ρ) :=
  ⟨x.same, frz_len.trans x.len, let ⟨S, o⟩ := x.own; ⟨_, o.frz fz⟩⟩
/-- S with another address at i -/
def put (S : Nat → Option Addr) (i : Nat) (o : Option Addr) : Nat → Option Addr := fun j => if j = i then o else S j
theorem put_some {i j : Nat} {o : Option Addr} {a : Addr} (h : put S i o j = some a) : (j = i ∧ o = some a) ∨ (j ≠ i ∧ S j = some a) := by
  unfold put at h
  split at h
  · exact .inl ⟨by assumption, h⟩
  · exact .inr ⟨by assumption, h⟩
/-- a value that is not held alone is stored at i -/
theorem OwnOk.setS (o : OwnOk G H0 N0 S σ H ρ) {i : Nat} {d : D} {v : V} (hl : ρ.length = σ.length) (r : Rep G (Out N0 H0 S) H d v) : OwnOk G H0 N0 (put S i none) (σ.set i (some v)) H (ρ.set i (some (false, d))) where
  new := fun j a e => by
    rcases put_some e with ⟨_, z⟩ | ⟨_, z⟩
    · cases z
    · exact o.new j a z
  kind := fun j a e => by
    rcases put_some e with ⟨_, z⟩ | ⟨_, z⟩
    · cases z
    · exact o.kind j a z
  inj := fun j k a e1 e2 => by
    rcases put_some e1 with ⟨_, z⟩ | ⟨_, z⟩
    · cases z
    · rcases put_some e2 with ⟨_, y⟩ | ⟨_, y⟩
      · cases y
      · exact o.inj j k a z y
  shr := fun j d' e => by
    have sub : ∀ a, Out N0 H0 S a → Out N0 H0 (put S i none) a := fun a h => ⟨h.1, fun k z => by
      rcases put_some z with ⟨_, y⟩ | ⟨_, y⟩
      · cases y
      · exact h.2 k y⟩
    by_cases q : j = i
    · subst q
      have hj : j < ρ.length := by
        have := (List.getElem?_eq_some_iff.mp e).1
        simpa using this
      rw [List.getElem?_set_self hj] at e
      cases e
      exact ⟨v, by rw [List.getElem?_set_self (by omega)], r.sub sub⟩
    · rw [List.getElem?_set_ne (Ne.symm q)] at e
      obtain ⟨u, e1, r1⟩ := o.shr j d' e
      exact ⟨u, by rw [List.getElem?_set_ne (Ne.symm q)]; exact e1, r1.sub sub⟩
  own := fun j d' e => by
    by_cases q : j = i
    · subst q
      have hj : j < ρ.length := by
        have := (List.getElem?_eq_some_iff.mp e).1
        simpa using this
      rw [List.getElem?_set_self hj] at e
      cases e
    · rw [List.getElem?_set_ne (Ne.symm q)] at e
      obtain ⟨a, e1, e2, r1⟩ := o.own j d' e
      refine ⟨a, by rw [List.getElem?_set_ne (Ne.symm q)]; exact e1, by unfold put; rw [if_neg q]; exact e2, r1.mono (fun a h _ => ⟨h.1, fun k z => ?_⟩) (Same.refl H)⟩
      rcases put_some z with ⟨_, y⟩ | ⟨_, y⟩
      · cases y
      · exact h.2 k y
/-- the slots behind a store of r at i, r reckoned from the slots at fz -/
def asg (fz : List Nat) (i : Nat) (r : Bool × D) (ρ : En) : En :=
  (if (if r.1 then immTop r.2 else imm r.2) then ρ else frz fz ρ).set i (some r)
theorem OwnOk.stored (o : OwnOk G H0 N0 S σ H ρ) (fz : List Nat) {i : Nat} {r : Bool × D} {v : V} (h0 : Same H0 H) (hl : ρ.length = σ.length) (s : Same H H1)
    (q : Rep G (Fr (Out N0 H0 (cut fz S)) H) H1 r.2 v) (f : r.1 = true → Fresh G (Fr (Out N0 H0 (cut fz S)) H) H H1 r.2 v) : ∃ S', OwnOk G H0 N0 S' (σ.set i (some v)) H1 (asg fz i r ρ) := by
  obtain ⟨b, d⟩ := r
  have o1 := o.same s
  -- what is new, or lies out
  have out : ∀ {S' : Nat → Option Addr}, (∀ j a, S' j = some a → H a ≠ none) → ∀ c, Fr (Out N0 H0 S') H c → Out N0 H0 S' c := fun hS' c hc =>
    hc.elim id fun z => ⟨.inr (h0.free z), fun j w => hS' j c w z⟩
  have hS : ∀ j a, S j = some a → H a ≠ none := fun j a e => (o.new j a e).2
  have hC : ∀ j a, cut fz S j = some a → H a ≠ none := fun j a e => hS j a (cut_some e).1
  cases b with
  | false =>
    by_cases hi : imm d = true
    · refine ⟨put S i none, ?_⟩
      rw [show asg fz i (false, d) ρ = ρ.set i (some (false, d)) from (by unfold asg; simp [hi])]
      exact o1.setS hl (Rep.imm hi q)
    · refine ⟨put (cut fz S) i none, ?_⟩
      rw [show asg fz i (false, d) ρ = (Fb.frz fz ρ).set i (some (false, d)) from (by unfold asg; simp [hi])]
      exact (o1.frz fz).setS (frz_len.trans hl) (q.sub (out hC))
  | true =>
    obtain ⟨a, ev, ha, w⟩ := f rfl
    subst ev
    have an : ∀ {S' : Nat → Option Addr}, (∀ j a, S' j = some a → H a ≠ none) → ∀ j, S' j ≠ some a := fun hS' j z => hS' j a z ha
    -- what stood ahead is apart from a
    have old : ∀ {d : D} {v : V} {N : Addr → Prop}, Rep G N H d v → Rep G (fun b => N b ∧ b ≠ a) H1 d v := fun r => r.mono (fun b z y => ⟨z, fun e => y (e ▸ ha)⟩) (Le.of s)
    have oldO : ∀ {d : D} {b : Addr} {N : Addr → Prop}, OwnT G N H b d → OwnT G (fun c => N c ∧ c ≠ a) H1 b d := fun r => r.mono (fun b z y => ⟨z, fun e => y (e ▸ ha)⟩) s
    -- setO wants it of what o1 says: rebuild from o
    have go : ∀ {S' : Nat → Option Addr} {ρ' : En}, OwnOk G H0 N0 S' σ H ρ' → ρ'.length = σ.length → (∀ j a, S' j = some a → H a ≠ none) → OwnT G (fun b => Out N0 H0 S' b ∧ b ≠ a) H1 a d → OwnOk G H0 N0 (put S' i (some a)) (σ.set i (some (.ref a))) H1 (ρ'.set i (some (true, d))) := fun {S' ρ'} o' hl' hS' w' => by
      have sub : ∀ b, (Out N0 H0 S' b ∧ b ≠ a) → Out N0 H0 (put S' i (some a)) b := fun b h => ⟨h.1.1, fun k z => by
        rcases put_some z with ⟨_, y⟩ | ⟨_, y⟩
        · cases y; exact h.2 rfl
        · exact h.1.2 k y⟩
      refine ⟨fun j b e => ?_, fun j b e => ?_, fun j k b e1 e2 => ?_, fun j d' e => ?_, fun j d' e => ?_⟩
      · rcases put_some e with ⟨_, z⟩ | ⟨_, z⟩
        · cases z; exact ⟨h0.free ha, w'.some⟩
        · exact ⟨(o'.new j b z).1, fun y => (o'.new j b z).2 (s.free y)⟩
      · rcases put_some e with ⟨_, z⟩ | ⟨_, z⟩
        · cases z; exact w'.kind
        · obtain ⟨u, h, k⟩ := o'.kind j b z
          exact ⟨u, s _ _ h, k⟩
      · rcases put_some e1 with ⟨x, z⟩ | ⟨x, z⟩
        · rcases put_some e2 with ⟨y, w⟩ | ⟨y, w⟩
          · exact x.trans y.symm
          · cases z; exact absurd w (an hS' k)
        · rcases put_some e2 with ⟨y, w⟩ | ⟨y, w⟩
          · cases w; exact absurd z (an hS' j)
          · exact o'.inj j k b z w
      · by_cases q : j = i
        · subst q
          have hj : j < ρ'.length := by
            have := (List.getElem?_eq_some_iff.mp e).1
            simpa using this
          rw [List.getElem?_set_self hj] at e
          cases e
        · rw [List.getElem?_set_ne (Ne.symm q)] at e
          obtain ⟨u, e1, r1⟩ := o'.shr j d' e
          exact ⟨u, by rw [List.getElem?_set_ne (Ne.symm q)]; exact e1, (old r1).sub sub⟩
      · by_cases q : j = i
        · subst q
          have hj : j < ρ'.length := by
            have := (List.getElem?_eq_some_iff.mp e).1
            simpa using this
          rw [List.getElem?_set_self hj] at e
          cases e
          exact ⟨a, by rw [List.getElem?_set_self (by omega)], by unfold put; rw [if_pos rfl], w'.mono (fun b z _ => sub b z) (Same.refl H1)⟩
        · rw [List.getElem?_set_ne (Ne.symm q)] at e
          obtain ⟨b, e1, e2, r1⟩ := o'.own j d' e
          exact ⟨b, by rw [List.getElem?_set_ne (Ne.symm q)]; exact e1, by unfold put; rw [if_neg q]; exact e2, (oldO r1).mono (fun b z _ => sub b z) (Same.refl H1)⟩
    by_cases hi : immTop d = true
    · refine ⟨put S i (some a), ?_⟩
      rw [show asg fz i (true, d) ρ = ρ.set i (some (true, d)) from (by unfold asg; simp [hi])]
      exact go o hl hS (OwnT.imm hi w)
    · refine ⟨put (cut fz S) i (some a), ?_⟩
      rw [show asg fz i (true, d) ρ = (Fb.frz fz ρ).set i (some (true, d)) from (by unfold asg; simp [hi])]
      exact go (o.frz fz) (frz_len.trans hl) hC (w.mono (fun b z _ => ⟨out hC b z.1, z.2⟩) (Same.refl H1))
theorem asg_len {fz : List Nat} {i : Nat} {r : Bool × D} : (asg fz i r ρ).length = ρ.length := by
  unfold asg
  rw [List.length_set]
  by_cases h : (if r.1 then immTop r.2 else imm r.2) = true
  · rw [if_pos h]
  · rw [if_neg h, frz_len]
end
end Fb
end

section
set_option Elab.async false
set_option linter.all false
set_option maxRecDepth 100000
set_option maxHeartbeats 4000000
/-! The judgement of statements; blocks, stores, tests, loops. -/
namespace Fb
open PySem PySem.Spec PyProof.Rows L2

/-- how a statement ends -/
inductive Fl where
  | nx | bk | ct | rt (r : Bool × D)
abbrev WS := W (Ex × En) (Fl × En)
/-- an expression's program within a statement's: what is raised is raised at these slots -/
def up {α : Type} (ρ : En) (m : W Ex α) : W (Ex × En) α := W.lift (fun x => (x, ρ)) m

def PoS (G : Wd) (H0 : Hp) (N0 : Addr → Prop) (D' : Ends) : Fl × En → Prop
  | (.nx, ρ) => ∀ σ H, SRel G H0 N0 σ H ρ → D'.nx σ H
  | (.bk, ρ) => ∀ σ H, SRel G H0 N0 σ H ρ → D'.bk σ H
  | (.ct, ρ) => ∀ σ H, SRel G H0 N0 σ H ρ → D'.ct σ H
  | (.rt r, _) => ∀ v H, Same H0 H → Rep G (Fr N0 H0) H r.2 v → (r.1 = true → Fresh G (Fr N0 H0) H0 H r.2 v) → D'.rt v H
def PoXS (G : Wd) (H0 : Hp) (N0 : Addr → Prop) (Wx : WX) (p : Ex × En) : Prop := ∀ σ c dd H, SRel G H0 N0 σ H p.2 → XRep G (Fr N0 H0) H p.1 c dd → Wx c dd σ H
def tS (G : Wd) (Wx : WX) (m : En → WS) : TS := fun D' σ H => ∃ H0 N0 ρ, SRel G H0 N0 σ H ρ ∧ m ρ (PoS G H0 N0 D') (PoXS G H0 N0 Wx)
structure DS (G : Wd) (X : Cx) (Wx : WX) (st : Stmt) (m : En → WS) : Prop where
  ps : PS X st (tS G Wx m)
  mono : ∀ ρ, W.Mono (m ρ)
structure DSs (G : Wd) (X : Cx) (Wx : WX) (st : List Stmt) (m : En → WS) : Prop where
  ps : PSs X st (tS G Wx m)
  mono : ∀ ρ, W.Mono (m ρ)

section
variable {G : Wd} {X : Cx} {Wx : WX}
theorem DS.imp {st : Stmt} {m : En → WS} {t : TS} (mono : ∀ ρ, W.Mono (m ρ)) (h : PS X st t) (i : ∀ H0 N0 ρ σ H D', SRel G H0 N0 σ H ρ → m ρ (PoS G H0 N0 D') (PoXS G H0 N0 Wx) → t D' σ H) : DS G X Wx st m :=
  ⟨⟨fun pins s σ H D' I ⟨H0, N0, ρ, r, q⟩ => h.run pins s σ H D' I (i H0 N0 ρ σ H D' r q)⟩, mono⟩
theorem DSs.imp {st : List Stmt} {m : En → WS} {t : TS} (mono : ∀ ρ, W.Mono (m ρ)) (h : PSs X st t) (i : ∀ H0 N0 ρ σ H D', SRel G H0 N0 σ H ρ → m ρ (PoS G H0 N0 D') (PoXS G H0 N0 Wx) → t D' σ H) : DSs G X Wx st m :=
  ⟨⟨fun pins s σ H D' I ⟨H0, N0, ρ, r, q⟩ => h.run pins s σ H D' I (i H0 N0 ρ σ H D' r q)⟩, mono⟩
theorem Mono.up {α : Type} {m : W Ex α} {ρ : En} (h : W.Mono m) : W.Mono (up ρ m) := W.Mono.lift h

/-! ### expressions within statements -/
section
variable {H0 : Hp} {N0 : Addr → Prop} {σ : Fb.St} {H : Hp} {ρ : En}
theorem Fr.out {S : Nat → Option Addr} {a : Addr} (h0 : Same H0 H) (h : Fr (Out N0 H0 S) H a) : Fr N0 H0 a := h.elim (fun z => z.1) fun z => .inr (h0.free z)
/-- the value of e, seen with fz, its holder unknown as yet -/
theorem DE.inS {e : Expr} {m : Ro → W Ex D} (h : DE G X Wx e m) (x : SRel G H0 N0 σ H ρ) {Q : VK} {P : D → Prop} (q : up ρ (m (ro ρ)) P (PoXS G H0 N0 Wx))
    (hP : ∀ d v H1, P d → SRel G H0 N0 σ H1 ρ → Same H H1 → Rep G (Fr N0 H0) H1 d v → Q v H1) : tE G Wx m σ H Q := by
  refine h.go x.ro q (fun y z => ?_) fun d v H1 z s r _ => hP d v H1 z (x.step s) s (r.sub fun _ y => y.elim id fun w => .inr (x.same.free w))
  intro c dd H' s r
  exact z σ c dd H' (x.step s) (r.mono fun _ y => y.elim id fun w => .inr (x.same.free w))
theorem DT.inS {e : Expr} {m : Ro → W Ex Bool} (h : DT G X Wx e m) (x : SRel G H0 N0 σ H ρ) {Q : Bool → Hp → Prop} {P : Bool → Prop} (q : up ρ (m (ro ρ)) P (PoXS G H0 N0 Wx))
    (hP : ∀ b H1, P b → SRel G H0 N0 σ H1 ρ → Same H H1 → Q b H1) : tT G Wx m σ H Q := by
  refine h.go x.ro q (fun y z => ?_) fun b H1 z s _ => hP b H1 z (x.step s) s
  intro c dd H' s r
  exact z σ c dd H' (x.step s) (r.mono fun _ y => y.elim id fun w => .inr (x.same.free w))
/-- .. to be stored, returned -/
theorem DR.inS {e : Expr} {m : Ro → W Ex (Bool × D)} (h : DR G X Wx e m) {S : Nat → Option Addr} (h0 : Same H0 H) (hl : ρ.length = σ.length) (o : OwnOk G H0 N0 S σ H ρ) (fz : List Nat) {Q : VK} {P : Bool × D → Prop} (q : up ρ (m (see fz ρ)) P (PoXS G H0 N0 Wx))
    (hP : ∀ r v H1, P r → Same H H1 → Rep G (Fr (Out N0 H0 (cut fz S)) H) H1 r.2 v → (r.1 = true → Fresh G (Fr (Out N0 H0 (cut fz S)) H) H H1 r.2 v) → Q v H1) : tR G Wx m σ H Q := by
  refine ⟨_, _, o.sees fz, (h.mono _).run (fun r z v H1 s1 r1 f1 => hP r v H1 z s1 r1 f1) (fun x z => ?_) q⟩
  intro c dd H' s r
  exact z σ c dd H' ⟨h0.trans s, hl, _, o.same s⟩ (r.mono fun _ y => y.out h0)
end

/-! ### blocks -/
def mSkip : En → WS := fun ρ => W.ret (.nx, ρ)
def andThen (n : En → WS) (p : Fl × En) : WS := match p.1 with
  | .nx => n p.2
  | _ => W.ret p
def mSeq (m n : En → WS) : En → WS := fun ρ => W.bind (m ρ) (andThen n)
theorem andThen_mono {n : En → WS} (h : ∀ ρ, W.Mono (n ρ)) (p : Fl × En) : W.Mono (andThen n p) := by
  obtain ⟨f, ρ⟩ := p
  cases f with
  | nx => exact h ρ
  | _ => exact W.Mono.ret
theorem dss_nil : DSs G X Wx [] mSkip := DSs.imp (fun _ => W.Mono.ret) pss_nil fun H0 N0 ρ σ H D' r q => q σ H r
theorem dss_cons {st : Stmt} {sts : List Stmt} {m n : En → WS} (h : DS G X Wx st m) (hs : DSs G X Wx sts n) : DSs G X Wx (st :: sts) (mSeq m n) := by
  refine DSs.imp (fun ρ => (h.mono ρ).bind fun p => andThen_mono hs.mono p) (pss_cons h.ps hs.ps) fun H0 N0 ρ σ H D' r q => ?_
  refine ⟨H0, N0, ρ, r, (h.mono ρ).run (fun p z => ?_) (fun _ z => z) q⟩
  obtain ⟨f, ρ'⟩ := p
  cases f with
  | nx => exact fun σ' H' r' => ⟨H0, N0, ρ', r', z⟩
  | bk => exact z
  | ct => exact z
  | rt r => exact z
theorem dss_one {st : Stmt} {m : En → WS} (h : DS G X Wx st m) : DSs G X Wx [st] m := ⟨pss_one h.ps, h.mono⟩

/-! ### small statements -/
theorem ds_pass {pos : Pos} : DS G X Wx (.Pass pos) mSkip := DS.imp (fun _ => W.Mono.ret) ps_pass fun H0 N0 ρ σ H D' r q => q σ H r
def mBreak : En → WS := fun ρ => W.ret (.bk, ρ)
def mCont : En → WS := fun ρ => W.ret (.ct, ρ)
theorem ds_break {pos : Pos} : DS G X Wx (.Break pos) mBreak := DS.imp (fun _ => W.Mono.ret) ps_break fun H0 N0 ρ σ H D' r q => q σ H r
theorem ds_continue {pos : Pos} : DS G X Wx (.Continue pos) mCont := DS.imp (fun _ => W.Mono.ret) ps_continue fun H0 N0 ρ σ H D' r q => q σ H r
/-- x = e -/
def mSet (fz : List Nat) (i : Nat) (m : Ro → W Ex (Bool × D)) : En → WS := fun ρ => W.bind (up ρ (m (see fz ρ))) fun r => W.ret (.nx, asg fz i r ρ)
theorem ds_set {i : Nat} {x : Str} {e : Expr} {m : Ro → W Ex (Bool × D)} {pos pos' : Pos} (fz : List Nat) (h : DR G X Wx e m) (hN : X.N.Nodup) (hi : X.N[i]? = some x) (hx : Loc X.env.scope x) (hs : swapsWith e (some (.Name x pos')) pos.line X.env = pure false := by rfl)
    (hf : X.fn x = true ∨ X.env.scope.names.lookup x = some .local := by first | exact .inl rfl | exact .inr rfl | assumption) : DS G X Wx (.Assign [.Name x pos'] e pos) (mSet fz i m) := by
  refine DS.imp (fun ρ => (Mono.up (h.mono _)).bind fun _ => W.Mono.ret) (ps_set hN hi hx h.pe hs hf) fun H0 N0 ρ σ H D' r q => ?_
  obtain ⟨S, o⟩ := r.own
  refine h.inS r.same r.len o fz q fun p v H1 z s1 r1 f1 => z _ _ ⟨r.same.trans s1, ?_, o.stored fz r.same r.len s1 r1 f1⟩
  rw [asg_len, List.length_set]
  exact r.len
/-- return e -/
def mRet (m : Ro → W Ex (Bool × D)) : En → WS := fun ρ => W.bind (up ρ (m (ro ρ))) fun r => W.ret (.rt r, ρ)
theorem ds_ret {e : Expr} {m : Ro → W Ex (Bool × D)} {pos : Pos} (h : DR G X Wx e m) : DS G X Wx (.Return (some e) pos) (mRet m) := by
  refine DS.imp (fun ρ => (Mono.up (h.mono _)).bind fun _ => W.Mono.ret) (ps_ret h.pe) fun H0 N0 ρ σ H D' r q => ?_
  have sub : ∀ a, Fr (Fr N0 H0) H a → Fr N0 H0 a := fun a y => y.elim id fun w => .inr (r.same.free w)
  refine ⟨_, _, r.ro, (h.mono _).run (fun p z v H1 s1 r1 f1 => ?_) (fun x z => ?_) q⟩
  · refine z v H1 (r.same.trans s1) (r1.sub sub) fun w => ?_
    obtain ⟨a, e1, e2, e3⟩ := f1 w
    exact ⟨a, e1, r.same.free e2, e3.mono (fun b y _ => ⟨sub b y.1, y.2⟩) (Same.refl H1)⟩
  · intro c dd H' s1 r1
    exact z σ c dd H' (r.step s1) (r1.mono sub)
/-- return x, a slot: held alone by the frame that ends -/
def holdOf : Option (Option (Bool × D)) → WS → (Bool × D → WS) → WS
  | some (some r), _, k => k r
  | _, n, _ => n
def mRetV (i : Nat) : En → WS := fun ρ => holdOf ρ[i]? W.fail fun r => W.ret (.rt r, ρ)
theorem ds_retv (i : Nat) {x : Str} {pos pos' : Pos} (h : PE X (.Name x pos') (tVar i)) : DS G X Wx (.Return (some (.Name x pos')) pos) (mRetV i) := by
  refine DS.imp (fun ρ => ?_) (ps_ret h) fun H0 N0 ρ σ H D' r q => ?_
  · unfold mRetV
    rcases ρ[i]? with _ | _ | p
    · exact W.Mono.fail
    · exact W.Mono.fail
    · exact W.Mono.ret
  · revert q
    unfold mRetV
    intro q
    rcases e : ρ[i]? with _ | _ | ⟨b, d⟩
    · rw [e] at q; exact q.elim
    · rw [e] at q; exact q.elim
    · rw [e] at q
      obtain ⟨S, o⟩ := r.own
      cases b with
      | false =>
        obtain ⟨v, e1, r1⟩ := o.shr i d e
        exact ⟨v, e1, q v H r.same (r1.sub fun _ z => z.1) fun z => nomatch z⟩
      | true =>
        obtain ⟨a, e1, e2, r1⟩ := o.own i d e
        have r2 : OwnT G (Fr N0 H0) H a d := r1.mono (fun _ z _ => z.1) (Same.refl H)
        refine ⟨_, e1, q (.ref a) H r.same (r2.rep (.inr (o.new i a e2).1)) fun _ => ⟨a, rfl, (o.new i a e2).1, r1.mono (fun b z _ => ⟨z.1, fun w => z.2 i (w ▸ e2)⟩) (Same.refl H)⟩⟩
def mRetN : En → WS := fun ρ => W.ret (.rt (false, .non), ρ)
theorem ds_retn {pos : Pos} : DS G X Wx (.Return none pos) mRetN := DS.imp (fun _ => W.Mono.ret) ps_retN fun H0 N0 ρ σ H D' r q => q .non H r.same rfl fun z => nomatch z
/-- e -/
def mDrop (m : Ro → W Ex D) : En → WS := fun ρ => W.bind (up ρ (m (ro ρ))) fun _ => W.ret (.nx, ρ)
theorem ds_expr {e : Expr} {m : Ro → W Ex D} {pos : Pos} (h : DE G X Wx e m) (hs : swapsWith e none pos.line X.env = pure false := by rfl) : DS G X Wx (.Expr e pos) (mDrop m) :=
  DS.imp (fun ρ => (Mono.up (h.mono _)).bind fun _ => W.Mono.ret) (ps_expr h.pe hs) fun H0 N0 ρ σ H D' r q =>
    h.inS r q fun d v H1 z r1 _ _ => z _ _ r1
/-- if -/
def mIf (c : Ro → W Ex Bool) (m n : En → WS) : En → WS := fun ρ => W.bind (up ρ (c (ro ρ))) fun b => if b = true then m ρ else n ρ
theorem ite_mono {c : Prop} [Decidable c] {ε α : Type} {m n : W ε α} (h1 : W.Mono m) (h2 : W.Mono n) : W.Mono (if c then m else n) := by
  split
  · exact h1
  · exact h2
theorem ds_if {c : Expr} {a b : List Stmt} {mc : Ro → W Ex Bool} {m n : En → WS} {pos : Pos} (hc : DT G X Wx c mc) (ha : DSs G X Wx a m) (hb : DSs G X Wx b n) : DS G X Wx (.If c a b pos) (mIf mc m n) := by
  refine DS.imp (fun ρ => (Mono.up (hc.mono _)).bind fun b => ite_mono (ha.mono ρ) (hb.mono ρ)) (ps_if hc.pt ha.ps hb.ps) fun H0 N0 ρ σ H D' r q => ?_
  refine hc.inS r q fun t H1 z r1 _ => ?_
  cases t with
  | true => exact ⟨H0, N0, ρ, r1, z⟩
  | false => exact ⟨H0, N0, ρ, r1, z⟩

/-! ### while -/
def whileN (c : Ro → W Ex Bool) (b : En → WS) : Nat → En → WS
  | 0, _ => W.fail
  | n + 1, ρ => W.bind (up ρ (c (ro ρ))) fun t => if t = true then W.bind (b ρ) fun p => match p with
      | (.nx, ρ') => whileN c b n ρ'
      | (.ct, ρ') => whileN c b n ρ'
      | (.bk, ρ') => W.ret (.nx, ρ')
      | (.rt r, ρ') => W.ret (.rt r, ρ')
    else W.ret (.nx, ρ)
def mWhile (c : Ro → W Ex Bool) (b : En → WS) : En → WS := fun ρ Q E => ∃ n, whileN c b n ρ Q E
theorem whileN_mono {c : Ro → W Ex Bool} {b : En → WS} (hc : ∀ ρ, W.Mono (c ρ)) (hb : ∀ ρ, W.Mono (b ρ)) : ∀ n ρ, W.Mono (whileN c b n ρ)
  | 0, _ => W.Mono.fail
  | n + 1, ρ => (Mono.up (hc _)).bind fun t => ite_mono ((hb ρ).bind fun p => by
      obtain ⟨f, ρ'⟩ := p
      cases f with
      | nx => exact whileN_mono hc hb n ρ'
      | ct => exact whileN_mono hc hb n ρ'
      | bk => exact W.Mono.ret
      | rt r => exact W.Mono.ret) W.Mono.ret
theorem ds_while {c : Expr} {body : List Stmt} {mc : Ro → W Ex Bool} {m : En → WS} {pos : Pos} (hp : PassesOwn (model X.prog X.w) X.A X.env X.xe) (hc : DT G X Wx c mc) (hb : DSs G X Wx body m) : DS G X Wx (.While c body [] pos) (mWhile mc m) := by
  refine DS.imp (fun ρ => ⟨fun h g ⟨n, q⟩ => ⟨n, (whileN_mono hc.mono hb.mono n ρ).run h g q⟩⟩) (ps_while hp hc.pt hb.ps) fun H0 N0 ρ σ H D' r q => ?_
  obtain ⟨n, q⟩ := q
  refine ⟨fun k σ H => ∃ ρ, SRel G H0 N0 σ H ρ ∧ whileN mc m k ρ (PoS G H0 N0 D') (PoXS G H0 N0 Wx), ⟨n, ρ, r, q⟩, ?_⟩
  rintro k σ1 H1 ⟨ρ1, r1, q1⟩
  cases k with
  | zero => exact q1.elim
  | succ k =>
    refine hc.inS r1 q1 fun t H2 z r2 _ => ?_
    cases t with
    | true =>
      refine ⟨fun σ' H' => ∃ ρ, SRel G H0 N0 σ' H' ρ ∧ whileN mc m k ρ (PoS G H0 N0 D') (PoXS G H0 N0 Wx), fun σ' H' w => ⟨k, Nat.lt_succ_self k, w⟩, H0, N0, ρ1, r2, (hb.mono ρ1).run (fun p y => ?_) (fun _ y => y) z⟩
      obtain ⟨f, ρ'⟩ := p
      cases f with
      | nx => exact fun σ' H' r' => ⟨ρ', r', y⟩
      | ct => exact fun σ' H' r' => ⟨ρ', r', y⟩
      | bk => exact fun σ' H' r' => y σ' H' r'
      | rt r => exact y
    | false => exact z _ _ r2
end
end Fb
end

section
set_option Elab.async false
set_option linter.all false
set_option maxRecDepth 100000
set_option maxHeartbeats 4000000
/-! Defs of a row as programs over data; their calls. -/
namespace Fb
open PySem PySem.Spec PyProof.Rows L2

abbrev Rt := W Ex (Bool × D)
/-- the def at f, called with values that stand for ds, does what sem says of ds -/
structure FnD (P : Program) (w : World) (G : Wd) (base : Heap) (k : Nat) (f : Addr) (fd : FuncData) (ps : List Str) (sem : List D → Rt) : Prop where
  run : ∀ (A : Around) (outer : List Env) (s : Shared) (H : Hp) (args : Args) (us : List Value) (vs : List V) (ds : List D) (N : Addr → Prop) (Q : VK) (E : XK), Room k A → A.guards = some [] → Env0 P w G.K G.mg base A outer s H →
    BindsTo s fd args (ps.zip us) → Vals vs us → Reps G N H ds vs → vs.length = ps.length →
    sem ds (PoR G N H Q) (fun x => ∀ c dd H', Same H H' → XRep G (Fr N H) H' x c dd → E c dd H') → codeAny (model P w) A (.call (.ref f) args) (CR (CX P w) outer P w H s Q E) s
  mono : ∀ ds, W.Mono (sem ds)
theorem FnD.up {P : Program} {w : World} {G : Wd} {base : Heap} {j k : Nat} {f : Addr} {fd : FuncData} {ps : List Str} {sem : List D → Rt} (F : FnD P w G base j f fd ps sem) (h : j ≤ k) : FnD P w G base k f fd ps sem :=
  ⟨fun A outer s H args us vs ds N Q E hr => F.run A outer s H args us vs ds N Q E (hr.mono h), F.mono⟩

/-- where a body runs -/
structure Cz (P : Program) (w : World) (G : Wd) (base : Heap) (k : Nat) (X : Cx) (Wx : WX) : Prop where
  P : X.prog = P
  w : X.w = w
  K : X.K = G.K
  mg : X.mg = G.mg
  base : X.base = base
  room : Room k X.A
  gd : X.A.guards = some []
  tk : Takes X Wx

/-! ### a body -/
def initEn (n : Nat) (ds : List D) : En := ds.map (fun d => some (false, d)) ++ List.replicate (n - ds.length) none
def runBody (n : Nat) (b : En → WS) : List D → Rt := fun ds Q E => b (initEn n ds) (fun p => match p.1 with
  | .nx => Q (false, .non)
  | .rt r => Q r
  | _ => False) (fun p => E p.1)
theorem runBody_mono {n : Nat} {b : En → WS} (h : ∀ ρ, W.Mono (b ρ)) (ds : List D) : W.Mono (runBody n b ds) := ⟨fun hq he q => (h _).run (fun p z => by
  obtain ⟨f, ρ⟩ := p
  cases f with
  | nx => exact hq _ z
  | rt r => exact hq _ z
  | bk => exact z
  | ct => exact z) (fun p z => he _ z) q⟩
theorem initEn_at {n i : Nat} {ds : List D} {b : Bool} {d : D} (h : (initEn n ds)[i]? = some (some (b, d))) : b = false ∧ ds[i]? = some d := by
  unfold initEn at h
  rw [List.getElem?_append] at h
  split at h
  · rw [List.getElem?_map] at h
    rcases e : ds[i]? with _ | d'
    · rw [e] at h; cases h
    · rw [e] at h; cases h; exact ⟨rfl, rfl⟩
  · rw [List.getElem?_replicate] at h
    split at h <;> cases h
theorem start_at {N : List Str} {vs : List V} {i : Nat} {v : V} (h : vs[i]? = some v) : (L2.start N vs)[i]? = some (some v) := by
  unfold L2.start
  rw [List.getElem?_append_left (by rw [List.length_map]; exact (List.getElem?_eq_some_iff.mp h).1), List.getElem?_map, h]
  rfl
theorem SRel.start {G : Wd} {N : Addr → Prop} {H : Hp} {ds : List D} {vs : List V} {Ns : List Str} (r : Reps G N H ds vs) (hl : vs.length ≤ Ns.length) : SRel G H N (L2.start Ns vs) H (initEn Ns.length ds) := by
  refine ⟨Same.refl H, ?_, fun _ => none, ⟨fun _ _ e => (nomatch e), fun _ _ e => (nomatch e), fun _ _ _ e => (nomatch e), fun i d e => ?_, fun i d e => ?_⟩⟩
  · unfold initEn L2.start
    rw [List.length_append, List.length_append, List.length_map, List.length_map, List.length_replicate, List.length_replicate, r.length]
  · obtain ⟨_, e⟩ := initEn_at e
    obtain ⟨v, e1, r1⟩ := Reps.get' r e
    exact ⟨v, start_at e1, r1.sub fun a z => ⟨.inl z, fun _ y => nomatch y⟩⟩
  · exact nomatch (initEn_at e).1
/-- the context of a def's body -/
abbrev cxD (P : Program) (w : World) (G : Wd) (base : Heap) (Ns : List Str) (qual : Str) (sc : Scope) (f : Addr) (cdv : Value) (A : Around) (outer : List Env) (s : Shared) (H : Hp) (E : XK) : Cx :=
  cxOf (L2.CX P w) P w G.K G.mg base Ns qual sc f cdv A outer s H E
abbrev wxD (E : XK) : WX := fun c d _ H => E c d H
/-- THE RULE: a def by its body -/
theorem fnd_of {P : Program} {w : World} {G : Wd} {base : Heap} {k : Nat} {f : Addr} {x qual : Str} {st : Stmt} {dV kV doc pm cdv ct oc : Value} {an od : Option Addr} {osl : Array (Option Value)} {Ns ps : List Str} {b : En → WS}
    (lk : G.K.lookup f = some ⟨oc, od, .func (PySem.W.fnOf x qual (defArgs st) (defBody st) (defScope st) dV kV doc pm an cdv ct), osl⟩) (hcd : PySem.W.codeIn G.K cdv qual = true) (S : FnScope Ns ps (defScope st))
    (hm : ∀ ρ, W.Mono (b ρ))
    (body : ∀ (A : Around) (outer : List Env) (s : Shared) (H : Hp) (E : XK), Cz P w G base k (cxD P w G base Ns qual (defScope st) f cdv A outer s H E) (wxD E) →
      DSs G (cxD P w G base Ns qual (defScope st) f cdv A outer s H E) (wxD E) (defBody st) b) :
    FnD P w G base (k + 1) f (PySem.W.fnOf x qual (defArgs st) (defBody st) (defScope st) dV kV doc pm an cdv ct) ps (runBody Ns.length b) := by
  refine ⟨fun A outer s H args us vs ds N Q E hr hg e0 hb rv rd hl q => ?_, runBody_mono hm⟩
  refine LamX.run_ofS lk hcd S hr e0 hb rv hl fun hr' => ?_
  have z : Cz P w G base k (cxD P w G base Ns qual (defScope st) f cdv A outer s H E) (wxD E) := ⟨rfl, rfl, rfl, rfl, rfl, hr', hg, takes_of rfl rfl rfl rfl⟩
  have d := body A outer s H E z
  refine ⟨_, d.ps, H, N, initEn Ns.length ds, .start rd ?_, (d.mono _).run (fun p y => ?_) (fun p y => ?_) q⟩
  · have := congrArg List.length S.pre
    rw [List.length_take] at this
    omega
  · obtain ⟨fl, ρ⟩ := p
    cases fl with
    | nx => exact fun σ' H' r' => y .non H' r'.same rfl fun z => nomatch z
    | rt r => exact fun v H' s' r' f' => y v H' s' r' f'
    | bk => exact y.elim
    | ct => exact y.elim
  · exact fun σ c dd H' r' x' => y c dd H' r'.same x'

/-! ### calls -/
section
variable {P : Program} {w : World} {G : Wd} {base : Heap} {k j : Nat} {X : Cx} {Wx : WX} {f : Addr} {fd : FuncData} {ps : List Str} {sem : List D → Rt}
/-- the callee runs -/
theorem run_fnd {pins : List (Addr × Obj)} {σ : Fb.St} {H : Hp} {s : Shared} {Q : VK} {us : List Value} {vs : List V} {ds : List D} {N : Addr → Prop} {dvs : List V} {dus : List Value} {dds : List D} (Z : Cz P w G base k X Wx) (F : FnD P w G base j f fd ps sem) (hj : j ≤ k) (hb : Binds X.K fd ps dus) (hd : Vals dvs dus)
    (I : Inv X pins σ H s) (r : Vals vs us) (rd : Reps G N H (ds ++ dds) (vs ++ dvs)) (hl : (ds ++ dds).length = ps.length) (h : sem (ds ++ dds) (PoR G N H Q) (PoX G N Wx H σ)) : wpAny (model X.prog X.w) X.A (call (.ref f) us) (EP X pins σ Q) X.xe s := by
  obtain ⟨rfl, rfl, hK, hmg, rfl, hr, hg, tk⟩ := Z
  have r2 : Vals (vs ++ dvs) (us ++ dus) := r.append hd
  have lv : (vs ++ dvs).length = ps.length := rd.length.trans hl
  have lu : (us ++ dus).length = ps.length := r2.length.symm.trans lv
  have e0 : Env0 X.prog X.w G.K G.mg X.base X.A X.stack s H := by rw [← hK, ← hmg]; exact I.env0
  refine wpAny_call (codeAny_mono (F.run X.A X.stack s H ⟨us, []⟩ (us ++ dus) (vs ++ dvs) (ds ++ dds) N Q (fun c dd H' => Wx c dd σ H') (hr.mono hj) hg e0 (hb s us I.kIn lu) r2 rd lv ((F.mono _).run (fun _ z => z) (fun x z => z) h)) fun r s' hq => ?_)
  cases r with
  | error e => exact tk e s' (XE.of_call (E := fun c dd H' => Wx c dd σ H') I (fun cls d H' h => h) hq)
  | ok fl =>
    cases fl with
    | ret u => exact I.after hq
    | next => exact False.elim hq
    | brk => exact False.elim hq
    | cont => exact False.elim hq
def mCall (n : Nat) (sem : List D → Rt) (dds : List D) (m : Ro → W Ex (List D)) : Ro → W Ex (Bool × D) := fun ρ => W.bind (m ρ) fun ds => if (ds ++ dds).length = n then sem (ds ++ dds) else W.fail
theorem PoR.step {N : Addr → Prop} {H H1 : Hp} {Q : VK} {r : Bool × D} (h : PoR G N H Q r) (s : Same H H1) : PoR G (Fr N H) H1 Q r := fun v H' s' r' f' =>
  h v H' (s.trans s') (r'.sub fun _ z => z.fr s) fun w => by
    obtain ⟨a, e1, e2, e3⟩ := f' w
    exact ⟨a, e1, s.free e2, e3.mono (fun b z _ => ⟨z.1.fr s, z.2⟩) (Same.refl H')⟩
theorem PoX.step2 {N : Addr → Prop} {H H1 : Hp} {σ : Fb.St} {x : Ex} (h : PoX G N Wx H σ x) (s : Same H H1) : PoX G (Fr N H) Wx H1 σ x := fun c dd H' s' r => h c dd H' (s.trans s') (r.mono fun _ z => z.fr s)
theorem mCall_mono {es : List Expr} {m : Ro → W Ex (List D)} {dds : List D} (F : FnD P w G base j f fd ps sem) (ha : DA G X Wx es m) (ρ : Ro) : W.Mono (mCall ps.length sem dds m ρ) :=
  (ha.mono ρ).bind fun ds => ite_mono (F.mono _) W.Mono.fail
/-- f(e, ..) -/
theorem dr_call {x : Str} {e : Expr} {es : List Expr} {p pos : Pos} {m : Ro → W Ex (List D)} {dvs : List V} {dus : List Value} {dds : List D} (Z : Cz P w G base k X Wx) (F : FnD P w G base j f fd ps sem) (hj : j ≤ k) (hm : G.mg x = some (.ref f)) (hk : PySem.W.keepIn G.K (.ref f) = true) (hb : Binds G.K fd ps dus)
    (hd : Vals dvs dus) (hr : ∀ N H, Reps G N H dds dvs) (hg : Gl X x) (ha : DA G X Wx (e :: es) m) (hdb : (x == ("__debug__" : Str)) = false := by decide) (he : starEach (e :: es) X.env = (false, eval e X.env) :: starEach es X.env := by rfl) (hpl : (backTo pos (starEach es X.env)).any (·.1) = false := by rfl) :
    DR G X Wx (.Call (.Name x p) (e :: es) [] pos) (mCall ps.length sem dds m) := by
  refine ⟨⟨fun pins s σ H Q I ⟨N, ρ, rr, q⟩ => ?_⟩, mCall_mono F ha⟩
  refine wpAny_Call_Name_kw (ld_glob I hg (Z.mg ▸ hm) ?_ hdb)
  have go := ha.pa.run pos pins s σ H (fun vs H1 => ∃ ds, Reps G (Fr N H) H1 ds vs ∧ (ds ++ dds).length = ps.length ∧ Same H H1 ∧ sem (ds ++ dds) (PoR G N H Q) (PoX G N Wx H σ)) I ⟨N, ρ, rr, (ha.mono ρ).run (fun ds z vs H1 s1 r1 => by
    by_cases hl : (ds ++ dds).length = ps.length
    · exact ⟨ds, r1, hl, s1, by simpa only [if_pos hl] using z⟩
    · have z' : (W.fail : Rt) (PoR G N H Q) (PoX G N Wx H σ) := by simpa only [if_neg hl] using z
      exact z'.elim) (fun x z => z) q⟩
  refine PySem.W.callWith_K (h₀ := X.base) I.ok.mod.kin (Z.K ▸ hk) (thn go fun us s1 ⟨vs, H1, I1, r, q1⟩ => ⟨I1.kIn, ?_⟩) he hpl
  obtain ⟨ds, r1, hl, s2, z⟩ := q1
  exact run_fnd Z F hj (Z.K ▸ hb) hd I1 r (r1.app (hr _ _)) hl ((F.mono _).run (fun _ y => y.step s2) (fun _ y => y.step2 s2) z)
end
end Fb
end

section
set_option Elab.async false
set_option linter.all false
set_option maxRecDepth 100000
set_option maxHeartbeats 4000000
/-! Operators over data. -/
namespace Fb
open PySem PySem.Spec PyProof.Rows L2

/-! ### data as the library's data -/
mutual
def D.py : D → Option PyData
  | .non => some .none
  | .bl b => some (.bool b)
  | .int i => some (.int i)
  | .str x => some (.str x)
  | .tup xs => (D.pys xs).map .tuple
  | .lst xs => (D.pys xs).map .list
  | .dic _ => none
  | .ins _ _ => none
  | .box _ => none
  | .ty _ => none
  | .cls _ => none
  | .raw _ => none
  | .scr _ => none
def D.pys : List D → Option (List PyData)
  | [] => some []
  | x :: xs => match D.py x, D.pys xs with
    | some p, some ps => some (p :: ps)
    | _, _ => none
end
section
variable {G : Wd} {N : Addr → Prop} {H : Hp}
mutual
theorem Rep.dp : ∀ {d : D} {v : V} {p : PyData}, Rep G N H d v → d.py = some p → Dp G.K H v p
  | .non, _, _, h, e => by simp only [D.py, Option.some.injEq] at e; subst e; rw [show _ = V.non from h]; exact .non
  | .bl b, _, _, h, e => by simp only [D.py, Option.some.injEq] at e; subst e; rw [show _ = V.bl b from h]; exact .bl b
  | .int i, _, _, h, e => by simp only [D.py, Option.some.injEq] at e; subst e; rw [show _ = V.int i from h]; exact .int i
  | .str x, _, _, h, e => by simp only [D.py, Option.some.injEq] at e; subst e; rw [show _ = V.str x from h]; exact .str x
  | .tup ds, _, _, ⟨a, vs, ev, q, r⟩, e => by
    simp only [D.py, Option.map_eq_some_iff] at e
    obtain ⟨ps, e1, e2⟩ := e
    subst e2 ev
    exact .tup q.sq (Reps.dp r e1)
  | .lst ds, _, _, ⟨a, vs, ev, n, q, r⟩, e => by
    simp only [D.py, Option.map_eq_some_iff] at e
    obtain ⟨ps, e1, e2⟩ := e
    subst e2 ev
    exact .lst (.of q) (Reps.dp r e1)
  | .dic _, _, _, _, e => by simp [D.py] at e
  | .ins _ _, _, _, _, e => by simp [D.py] at e
  | .box _, _, _, _, e => by simp [D.py] at e
  | .ty _, _, _, _, e => by simp [D.py] at e
  | .cls _, _, _, _, e => by simp [D.py] at e
  | .raw _, _, _, _, e => by simp [D.py] at e
  | .scr _, _, _, _, e => by simp [D.py] at e
theorem Reps.dp : ∀ {ds : List D} {vs : List V} {ps : List PyData}, Reps G N H ds vs → D.pys ds = some ps → DpAll G.K H vs ps
  | [], _, _, h, e => by simp only [D.pys, Option.some.injEq] at e; subst e; rw [show _ = [] from h]; exact .nil
  | d :: ds, _, _, ⟨w, ws, ev, r, rs⟩, e => by
    subst ev
    rcases e1 : D.py d with _ | p
    · simp [D.pys, e1] at e
    · rcases e2 : D.pys ds with _ | qs
      · simp [D.pys, e1, e2] at e
      · simp only [D.pys, e1, e2, Option.some.injEq] at e
        subst e
        exact .cons (Rep.dp r e1) (Reps.dp rs e2)
end
end

/-! ### binary operators with a fresh answer -/
def DOpR (G : Wd) (X : Cx) (r : R2) (g : D → D → Rt) : Prop :=
  (∀ a b, W.Mono (g a b)) ∧ ∀ N H a b x y Q, Rep G N H a x → Rep G N H b y → g a b (PoR G N H Q) (fun _ => False) → r x y H Q
def mOpR (g : D → D → Rt) (m n : Ro → W Ex D) : Ro → W Ex (Bool × D) := fun ρ => W.bind (m ρ) fun a => W.bind (n ρ) fun b => W.calm (g a b)
section
variable {G : Wd} {X : Cx} {Wx : WX}
theorem opR_two {a b : Expr} {m n : Ro → W Ex D} {r : R2} {g : D → D → Rt} (hg : DOpR G X r g) (ha : DE G X Wx a m) (hb : DE G X Wx b n) {N : Addr → Prop} {ρ : Ro} {σ : Fb.St} {H : Hp} {Q : VK} (rr : ERel G N H σ ρ)
    (q : mOpR g m n ρ (PoR G N H Q) (PoX G N Wx H σ)) : tOp r (tE G Wx m) (tE G Wx n) σ H Q := by
  refine ha.go rr q (fun x z => z) fun d v H1 z s1 r1 rr1 => ?_
  refine hb.go rr1 z (fun x z => z.step s1) fun e u H2 z s2 r2 rr2 => ?_
  refine hg.2 (Fr N H) H2 d e v u Q (r1.same s2) (r2.sub fun _ z => z.step s1) ?_
  exact (hg.1 d e).run (fun d z => z.step (s1.trans s2)) (fun _ z => z) z
theorem mOpR_mono {a b : Expr} {m n : Ro → W Ex D} {r : R2} {g : D → D → Rt} (hg : DOpR G X r g) (ha : DE G X Wx a m) (hb : DE G X Wx b n) (ρ : Ro) : W.Mono (mOpR g m n ρ) :=
  (ha.mono ρ).bind fun d => (hb.mono ρ).bind fun e => (hg.1 d e).calm
theorem dr_op {op : Operator} {a b : Expr} {m n : Ro → W Ex D} {r : R2} {g : D → D → Rt} {pos : Pos} (ho : OpR X (binaryOp op) r) (hg : DOpR G X r g) (ha : DE G X Wx a m) (hb : DE G X Wx b n) : DR G X Wx (.BinOp a op b pos) (mOpR g m n) :=
  DR.imp (mOpR_mono hg ha hb) (pe_op ho ha.pe hb.pe) fun N ρ σ H Q rr q => opR_two hg ha hb rr q
theorem de_ix {a b : Expr} {m n : Ro → W Ex D} {r : R2} {g : D → D → W Ex D} {pos : Pos} (ho : IxR X r) (hg : DOp G X r g) (ha : DE G X Wx a m) (hb : DE G X Wx b n) (hs : PlainIx b) : DE G X Wx (.Subscript a b pos) (mOp g m n) :=
  DE.imp (mOp_mono hg ha hb) (pe_ix ho ha.pe hb.pe hs) fun N ρ σ H Q rr q => op_two hg ha hb rr q

/-! ### arithmetic -/
def gAdd : D → D → Rt
  | .int i, .int j => W.ret (false, .int (i + j))
  | .str x, .str y => if x.length + y.length ≤ sizeLine then W.ret (false, .str (x ++ y)) else W.fail
  | .lst xs, .lst ys => if xs.length + ys.length ≤ sizeLine then W.ret (true, .lst (xs ++ ys)) else W.fail
  | .tup xs, .tup ys => if xs ≠ [] ∧ xs.length + ys.length ≤ sizeLine then W.ret (false, .tup (xs ++ ys)) else W.fail
  | _, _ => W.fail
theorem ite_ret {ε α : Type} {c : Prop} [Decidable c] {m : W ε α} {Q : α → Prop} {E : ε → Prop} (h : (if c then m else W.fail) Q E) : c ∧ m Q E := by
  split at h
  · exact ⟨by assumption, h⟩
  · exact h.elim
def rAdd (K : PySem.W.Frag) : R2 := fun x y H Q => (((∃ i j, x = .int i ∧ y = .int j ∧ Q (.int (i + j)) H) ∨ (∃ i j, x = .str i ∧ y = .str j ∧ i.length + j.length ≤ sizeLine ∧ Q (.str (i ++ j)) H)) ∨ rCat x y H Q) ∨ rCatT K x y H Q
theorem op_addAll : OpR X (binaryOp .Add) (rAdd X.K) := ((op_add.or op_add_str).or op_cat).or op_catT
theorem dop_add (hK : X.K = G.K) : DOpR G X (rAdd X.K) gAdd := by
  refine ⟨fun a b => ?_, fun N H a b x y Q ra rb q => ?_⟩
  · unfold gAdd
    split
    · exact W.Mono.ret
    · exact ite_mono W.Mono.ret W.Mono.fail
    · exact ite_mono W.Mono.ret W.Mono.fail
    · exact ite_mono W.Mono.ret W.Mono.fail
    · exact W.Mono.fail
  · cases a <;> cases b <;> first | exact q.elim | skip
    · rename_i i j
      exact .inl (.inl (.inl ⟨i, j, ra, rb, q _ H (Same.refl H) rfl fun z => nomatch z⟩))
    · rename_i i j
      obtain ⟨c, q⟩ := ite_ret q
      exact .inl (.inl (.inr ⟨i, j, ra, rb, c, q _ H (Same.refl H) rfl fun z => nomatch z⟩))
    · rename_i xs ys
      obtain ⟨⟨c1, c3⟩, q⟩ := ite_ret q
      obtain ⟨p, vs, ev, h1, r1⟩ := ra
      obtain ⟨p', vs', ev', h1', r1'⟩ := rb
      have l1 := r1.length
      have l2 := r1'.length
      refine .inr ⟨p, p', vs, vs', ev, ev', hK ▸ h1.sq, hK ▸ h1'.sq, fun z => c1 ?_, by omega, fun z => ?_, fun _ l hl => ?_⟩
      · rw [z] at l1
        exact List.length_eq_zero_iff.mp l1.symm
      · subst z
        have e : ys = [] := List.length_eq_zero_iff.mp l2.symm
        subst e
        exact q _ H (Same.refl H) ⟨p, vs, rfl, h1, by rw [List.append_nil]; exact r1.sub fun _ => Fr.of⟩ fun z => nomatch z
      · have s : Same H (upd H l (.tup (vs ++ vs'))) := fun b o e => by rw [upd_ne (ne_of_none e hl)]; exact e
        exact q (.ref l) _ s ⟨l, _, rfl, .inl upd_same, ((r1.app r1').same s).sub fun _ => Fr.of⟩ fun z => nomatch z
    · rename_i xs ys
      obtain ⟨c, q⟩ := ite_ret q
      obtain ⟨p, vs, ev, n1, h1, r1⟩ := ra
      obtain ⟨p', vs', ev', n1', h1', r1'⟩ := rb
      have l1 := r1.length
      have l2 := r1'.length
      refine .inl (.inr ⟨p, p', vs, vs', ev, ev', h1, h1', by omega, fun l hl => ?_⟩)
      have s : Same H (upd H l (.lst (vs ++ vs'))) := fun b o e => by rw [upd_ne (ne_of_none e hl)]; exact e
      have rr := (r1.app r1').same s
      have nl : ∀ b, N b → H b ≠ none → (Fr N H b ∧ b ≠ l) := fun b z y => ⟨.inl z, fun e => y (e ▸ hl)⟩
      refine q (.ref l) _ s ⟨l, _, rfl, .inr hl, upd_same, rr.sub fun _ z => .inl z⟩ fun _ => ⟨l, rfl, hl, _, upd_same, ?_⟩
      exact (r1.app r1').mono nl (Le.of s)

def gII (f : Int → Int → W Ex D) : D → D → W Ex D
  | .int i, .int j => f i j
  | _, _ => W.fail
theorem dop_ii {r : R2} {f : Int → Int → W Ex D} (hm : ∀ i j, W.Mono (f i j)) (h : ∀ i j H Q, f i j (fun d => ∀ v, (∀ N H, Rep G N H d v) → Q v H) (fun _ => False) → r (.int i) (.int j) H Q) : DOp G X r (gII f) := by
  refine ⟨fun a b => ?_, fun N H a b x y Q ra rb q => ?_⟩
  · unfold gII
    split
    · exact hm _ _
    · exact W.Mono.fail
  · cases a <;> cases b <;> first | exact q.elim | skip
    rename_i i j
    obtain rfl : x = .int i := ra
    obtain rfl : y = .int j := rb
    exact h i j H Q ((hm i j).run (fun d z v rv => z v H (Same.refl H) (rv _ _)) (fun _ z => z) q)
def gSub : D → D → W Ex D := gII fun i j => W.ret (.int (i - j))
theorem dop_sub : DOp G X (rI0 fun i j => .int (i - j)) gSub := dop_ii (fun _ _ => W.Mono.ret) fun i j H Q q => ⟨i, j, rfl, rfl, q _ fun _ _ => rfl⟩
def gMul : D → D → W Ex D := gII fun i j => if (-(2 ^ 64) < i ∧ i < 2 ^ 64) ∨ (-(2 ^ 64) < j ∧ j < 2 ^ 64) then W.ret (.int (i * j)) else W.fail
theorem dop_mul : DOp G X (rI CMul fun i j => .int (i * j)) gMul := dop_ii (fun _ _ => ite_mono W.Mono.ret W.Mono.fail) fun i j H Q q => by
  obtain ⟨c, q⟩ := ite_ret q
  exact ⟨i, j, rfl, rfl, c, q _ fun _ _ => rfl⟩
def gFdiv : D → D → W Ex D := gII fun i j => if 0 < j ∧ j < 1073741824 then W.ret (.int (i / j)) else W.fail
theorem dop_fdiv : DOp G X (rI CDiv fun i j => .int (i / j)) gFdiv := dop_ii (fun _ _ => ite_mono W.Mono.ret W.Mono.fail) fun i j H Q q => by
  obtain ⟨c, q⟩ := ite_ret q
  exact ⟨i, j, rfl, rfl, c, q _ fun _ _ => rfl⟩
def gMod : D → D → W Ex D := gII fun i j => if 0 < j then W.ret (.int (i % j)) else W.fail
theorem dop_mod : DOp G X (rI (fun _ j => 0 < j) fun i j => .int (i % j)) gMod := dop_ii (fun _ _ => ite_mono W.Mono.ret W.Mono.fail) fun i j H Q q => by
  obtain ⟨c, q⟩ := ite_ret q
  exact ⟨i, j, rfl, rfl, c, q _ fun _ _ => rfl⟩
def gPow : D → D → W Ex D := gII fun i j => if 0 ≤ j ∧ j ≤ 1000000 ∧ i.natAbs < 2 ^ 64 then W.ret (.int (i ^ j.toNat)) else W.fail
theorem dop_pow : DOp G X (rI CPow fun i j => .int (i ^ j.toNat)) gPow := dop_ii (fun _ _ => ite_mono W.Mono.ret W.Mono.fail) fun i j H Q q => by
  obtain ⟨c, q⟩ := ite_ret q
  exact ⟨i, j, rfl, rfl, c, q _ fun _ _ => rfl⟩
def gLt : D → D → W Ex D := gII fun i j => W.ret (.bl (decide (i < j)))
theorem dop_lt : DOp G X (rI0 fun i j => .bl (decide (i < j))) gLt := dop_ii (fun _ _ => W.Mono.ret) fun i j H Q q => ⟨i, j, rfl, rfl, q _ fun _ _ => rfl⟩
def gLe : D → D → W Ex D := gII fun i j => W.ret (.bl (decide (i ≤ j)))
theorem dop_le : DOp G X (rI0 fun i j => .bl (decide (i ≤ j))) gLe := dop_ii (fun _ _ => W.Mono.ret) fun i j H Q q => ⟨i, j, rfl, rfl, q _ fun _ _ => rfl⟩
def gGt : D → D → W Ex D := gII fun i j => W.ret (.bl (decide (j < i)))
theorem dop_gt : DOp G X (rI0 fun i j => .bl (decide (j < i))) gGt := dop_ii (fun _ _ => W.Mono.ret) fun i j H Q q => ⟨i, j, rfl, rfl, q _ fun _ _ => rfl⟩
def gGe : D → D → W Ex D := gII fun i j => W.ret (.bl (decide (j ≤ i)))
theorem dop_ge : DOp G X (rI0 fun i j => .bl (decide (j ≤ i))) gGe := dop_ii (fun _ _ => W.Mono.ret) fun i j H Q q => ⟨i, j, rfl, rfl, q _ fun _ _ => rfl⟩
/-- -a -/
def mNeg (m : Ro → W Ex D) : Ro → W Ex D := fun ρ => W.bind (m ρ) fun d => match d with
  | .int i => W.ret (.int (-i))
  | _ => W.fail
theorem de_neg {a : Expr} {m : Ro → W Ex D} {pos : Pos} (ha : DE G X Wx a m) : DE G X Wx (.UnaryOp .USub a pos) (mNeg m) := by
  refine DE.imp (fun ρ => (ha.mono ρ).bind fun d => ?_) (pe_un un_neg ha.pe) fun N ρ σ H Q rr q => ?_
  · split
    · exact W.Mono.ret
    · exact W.Mono.fail
  · refine ha.go rr q (fun x z => z) fun d v H1 z s1 r1 _ => ?_
    cases d <;> first | exact z.elim | skip
    rename_i i
    exact ⟨i, r1, z _ H1 s1 rfl⟩

/-! ### == and != -/
def D.deq (a b : D) : Option Bool := match a.py, b.py with
  | some p, some q => if SeqAt.shaped p = true ∧ SeqAt.shaped q = true then some (PyData.eqv p q) else none
  | _, _ => none
def gEq (neg : Bool) (a b : D) : W Ex D := match D.deq a b with
  | some t => W.ret (.bl (t != neg))
  | none => W.fail
theorem deq_inv {a b : D} {t : Bool} (h : D.deq a b = some t) : ∃ p q, a.py = some p ∧ b.py = some q ∧ SeqAt.shaped p = true ∧ SeqAt.shaped q = true ∧ PyData.eqv p q = t := by
  unfold D.deq at h
  rcases ea : a.py with _ | p
  · rw [ea] at h; cases h
  · rcases eb : b.py with _ | q
    · rw [ea, eb] at h; cases h
    · rw [ea, eb] at h
      by_cases c : SeqAt.shaped p = true ∧ SeqAt.shaped q = true
      · simp only [if_pos c, Option.some.injEq] at h
        exact ⟨p, q, rfl, rfl, c.1, c.2, h⟩
      · simp only [if_neg c] at h
        cases h
theorem gEq_mono (neg : Bool) (a b : D) : W.Mono (gEq neg a b) := by
  unfold gEq
  split
  · exact W.Mono.ret
  · exact W.Mono.fail
theorem gEq_inv {neg : Bool} {a b : D} {Q : D → Prop} {E : Ex → Prop} (h : gEq neg a b Q E) : ∃ t, D.deq a b = some t ∧ Q (.bl (t != neg)) := by
  unfold gEq at h
  rcases e : D.deq a b with _ | t
  · rw [e] at h; exact h.elim
  · rw [e] at h; exact ⟨t, rfl, h⟩
theorem dop_eq (hK : X.K = G.K) : DOp G X (rEqD X.K) (gEq false) := by
  refine ⟨gEq_mono _, fun N H a b x y Q ra rb q => ?_⟩
  obtain ⟨t, e, q⟩ := gEq_inv q
  obtain ⟨p, p', e1, e2, s1, s2, e3⟩ := deq_inv e
  refine ⟨p, p', hK ▸ ra.dp e1, hK ▸ rb.dp e2, s1, s2, q _ H (Same.refl H) ?_⟩
  subst e3
  show V.bl _ = V.bl _
  simp
theorem dop_ne (hK : X.K = G.K) : DOp G X (rNeD X.K) (gEq true) := by
  refine ⟨gEq_mono _, fun N H a b x y Q ra rb q => ?_⟩
  obtain ⟨t, e, q⟩ := gEq_inv q
  obtain ⟨p, p', e1, e2, s1, s2, e3⟩ := deq_inv e
  refine ⟨p, p', hK ▸ ra.dp e1, hK ▸ rb.dp e2, s1, s2, q _ H (Same.refl H) ?_⟩
  subst e3
  show V.bl _ = V.bl _
  simp
/-- is None -/
def isN : D → Bool
  | .non => true
  | _ => false
theorem Rep.isN {N : Addr → Prop} {H : Hp} {d : D} {v : V} (r : Rep G N H d v) : decide (v = .non) = Fb.isN d := by
  cases d with
  | non => rw [show v = V.non from r]; rfl
  | bl b => rw [show v = V.bl b from r]; rfl
  | int b => rw [show v = V.int b from r]; rfl
  | str b => rw [show v = V.str b from r]; rfl
  | tup ds => obtain ⟨a, _, e, _⟩ := r; rw [e]; rfl
  | lst ds => obtain ⟨a, _, e, _⟩ := r; rw [e]; rfl
  | dic ds => obtain ⟨a, _, e, _⟩ := r; rw [e]; rfl
  | ins c ds => obtain ⟨a, _, _, _, e, _⟩ := r; rw [e]; rfl
  | box ds => obtain ⟨a, e, _⟩ := r; rw [e]; rfl
  | ty ds => rw [show v = V.ty ds from r]; rfl
  | cls ds => obtain ⟨a, e, _⟩ := r; rw [e]; rfl
  | raw a => rw [show v = V.ref a from r]; rfl
  | scr a => obtain ⟨a, e, _⟩ := r; rw [e]; rfl
def gIs (neg : Bool) (a b : D) : W Ex D := match b with
  | .non => W.ret (.bl (isN a != neg))
  | _ => W.fail
theorem gIs_mono (neg : Bool) (a b : D) : W.Mono (gIs neg a b) := by
  unfold gIs
  split
  · exact W.Mono.ret
  · exact W.Mono.fail
theorem dop_is : DOp G X (fun x y H Q => y = .non ∧ Q (.bl (decide (x = .non))) H) (gIs false) := by
  refine ⟨gIs_mono _, fun N H a b x y Q ra rb q => ?_⟩
  cases b <;> first | exact q.elim | skip
  exact ⟨rb, q _ H (Same.refl H) (by rw [ra.isN]; show V.bl _ = V.bl _; simp)⟩
theorem dop_isnot : DOp G X (fun x y H Q => y = .non ∧ Q (.bl (!decide (x = .non))) H) (gIs true) := by
  refine ⟨gIs_mono _, fun N H a b x y Q ra rb q => ?_⟩
  cases b <;> first | exact q.elim | skip
  exact ⟨rb, q _ H (Same.refl H) (by rw [ra.isN]; show V.bl _ = V.bl _; simp)⟩

/-! ### dicts -/
/-- what may be a key -/
def keyOf : D → Option Key
  | .int i => some (.inl i)
  | .str x => some (.inr x)
  | _ => none
theorem Rep.key {N : Addr → Prop} {H : Hp} {d : D} {v : V} {k : Key} (r : Rep G N H d v) (e : keyOf d = some k) : v = kV k := by
  cases d <;> simp [keyOf] at e
  · subst e; exact r
  · subst e; exact r
def lookK (kvs : List (Key × D)) (k : Key) : Option D := match kvs with
  | [] => none
  | (k', d) :: r => if k' = k then some d else lookK r k
theorem valV_cons (k' : Key) (w : V) (ws : List (Key × V)) (k : Key) : valV ((k', w) :: ws) k = if k' = k then some w else valV ws k := by
  unfold valV
  rw [List.find?_cons]
  by_cases h : k' = k
  · simp [h]
  · simp [h]
theorem RepK.look {N : Addr → Prop} {H : Hp} {k : Key} : ∀ {kvs : List (Key × D)} {ks : List (Key × V)}, RepK G N H kvs ks → match lookK kvs k with
    | some d => ∃ v, valV ks k = some v ∧ Rep G N H d v
    | none => valV ks k = none
  | [], _, h => by rw [show _ = [] from h]; rfl
  | (k', d) :: r, _, ⟨w, ws, e, rd, rs⟩ => by
    subst e
    unfold lookK
    rw [valV_cons]
    by_cases hk : k' = k
    · rw [if_pos hk, if_pos hk]
      exact ⟨w, rfl, rd⟩
    · rw [if_neg hk, if_neg hk]
      exact RepK.look rs
theorem RepK.length {N : Addr → Prop} {H : Hp} : ∀ {kvs : List (Key × D)} {ks : List (Key × V)}, RepK G N H kvs ks → ks.length = kvs.length
  | [], _, h => by rw [show _ = [] from h]; rfl
  | (k', d) :: r, _, ⟨w, ws, e, rd, rs⟩ => by rw [e, List.length_cons, List.length_cons, RepK.length rs]
theorem RepK.dget {N : Addr → Prop} {H : Hp} {a : Addr} {kvs : List (Key × D)} {ks : List (Key × V)} {k : Key} (r : RepK G N H kvs ks) (e : Rd H a (.dK ks)) : DGet H a (kV k) (valV ks k) := .inl ⟨ks, k, e, rfl, rfl⟩

/-! ### in -/
def strIn (x z : Str) : Bool := match x.cps.toList with
  | [c] => decide (c ∈ z.cps.toList)
  | _ => !(Builtin.Str.occurrences z x 0 z.length 1).isEmpty
def seqIn (ys : List D) (x : D) : Option Bool := match D.pys ys, x.py with
  | some ps, some p => if SeqAt.shaped p = true ∧ SeqAt.shaped (.list ps) = true ∧ SeqAt.shaped (.tuple ps) = true then some (ps.any fun z => PyData.eqv z p) else none
  | _, _ => none
def inD (x : D) : D → Option Bool
  | .lst ys => seqIn ys x
  | .tup ys => seqIn ys x
  | .dic kvs => match keyOf x with
    | some k => some (lookK kvs k).isSome
    | none => none
  | .str z => match x with
    | .str y => some (strIn y z)
    | _ => none
  | _ => none
def gIn (neg : Bool) (x y : D) : W Ex D := match inD x y with
  | some t => W.ret (.bl (t != neg))
  | none => W.fail
theorem gIn_mono (neg : Bool) (a b : D) : W.Mono (gIn neg a b) := by
  unfold gIn
  split
  · exact W.Mono.ret
  · exact W.Mono.fail
theorem gIn_inv {neg : Bool} {a b : D} {Q : D → Prop} {E : Ex → Prop} (h : gIn neg a b Q E) : ∃ t, inD a b = some t ∧ Q (.bl (t != neg)) := by
  unfold gIn at h
  rcases e : inD a b with _ | t
  · rw [e] at h; exact h.elim
  · rw [e] at h; exact ⟨t, rfl, h⟩
theorem seqIn_inv {ys : List D} {x : D} {t : Bool} (h : seqIn ys x = some t) : ∃ ps p, D.pys ys = some ps ∧ x.py = some p ∧ SeqAt.shaped p = true ∧ SeqAt.shaped (.list ps) = true ∧ SeqAt.shaped (.tuple ps) = true ∧ (ps.any fun z => PyData.eqv z p) = t := by
  unfold seqIn at h
  rcases ea : D.pys ys with _ | ps
  · rw [ea] at h; cases h
  · rcases eb : x.py with _ | p
    · rw [ea, eb] at h; cases h
    · rw [ea, eb] at h
      by_cases c : SeqAt.shaped p = true ∧ SeqAt.shaped (.list ps) = true ∧ SeqAt.shaped (.tuple ps) = true
      · simp only [if_pos c, Option.some.injEq] at h
        exact ⟨ps, p, rfl, rfl, c.1, c.2.1, c.2.2, h⟩
      · simp only [if_neg c] at h
        cases h
/-- the rule of in, whatever is asked: by the data -/
def rInAll (neg : Bool) (G : Wd) : R2 := fun x y H Q => ∃ N a b t, Rep G N H a x ∧ Rep G N H b y ∧ inD a b = some t ∧ Q (.bl (t != neg)) H
theorem op_inAll (Z : X.K = G.K) (hu : X.A.units + 65 < cLine) : OpR X (compareOp .In) (rInAll false G) := by
  intro pins s σ H x y v u Q I rx ry h
  obtain ⟨N, a, b, t, ra, rb, e, q⟩ := h
  have q : Q (.bl t) H := by simpa using q
  cases b with
  | lst ys =>
    obtain ⟨ps, p, e1, e2, s1, s2, s3, e3⟩ := seqIn_inv (show seqIn ys a = some t from e)
    obtain ⟨as, r1⟩ := Dp.reads I p x v (Z ▸ ra.dp e2) rx
    obtain ⟨bs, r2⟩ := Dp.reads I (.list ps) y u (Z ▸ rb.dp (by simp only [D.py, e1, Option.map_some])) ry
    have hd := SeqAt.depth_of_shaped s1
    exact SeqAt.in_list_reads r2 r1 (SeqAt.canLay_of_shaped s2) (SeqAt.canLay_of_shaped s1) (by have := Nat.min_le_right (PyData.depthAll ps) p.depth; omega) ⟨.bl _, H, I, rfl, e3 ▸ q⟩
  | tup ys =>
    obtain ⟨ps, p, e1, e2, s1, s2, s3, e3⟩ := seqIn_inv (show seqIn ys a = some t from e)
    obtain ⟨as, r1⟩ := Dp.reads I p x v (Z ▸ ra.dp e2) rx
    obtain ⟨bs, r2⟩ := Dp.reads I (.tuple ps) y u (Z ▸ rb.dp (by simp only [D.py, e1, Option.map_some])) ry
    have hd := SeqAt.depth_of_shaped s1
    exact SeqAt.in_tuple_reads r2 r1 (SeqAt.canLay_of_shaped s3) (SeqAt.canLay_of_shaped s1) (by have := Nat.min_le_right (PyData.depthAll ps) p.depth; omega) ⟨.bl _, H, I, rfl, e3 ▸ q⟩
  | dic kvs =>
    obtain ⟨c, ks, ev, n, r, rk⟩ := rb
    subst ev
    obtain rfl : u = Value.ref c := ry
    rcases ek : keyOf a with _ | k
    · simp [inD, ek] at e
    · simp only [inD, ek, Option.some.injEq] at e
      have ex := ra.key ek
      subst ex
      refine d_in (by omega) I (rk.dget r) rx fun s' I' => ⟨.bl _, H, I', rfl, ?_⟩
      have lk := rk.look (k := k)
      rcases el : lookK kvs k with _ | d
      · rw [el] at lk e
        have lk : valV ks k = none := lk
        rw [lk]
        subst e
        exact q
      · rw [el] at lk e
        obtain ⟨w, hw, _⟩ := (lk : ∃ v, valV ks k = some v ∧ Rep G N H d v)
        rw [hw]
        subst e
        exact q
  | str z =>
    obtain rfl : y = V.str z := rb
    cases a <;> first | (simp [inD] at e; done) | skip
    rename_i w
    obtain rfl : x = V.str w := ra
    obtain ⟨tv, rfl⟩ := rx
    obtain ⟨tu, rfl⟩ := ry
    have ee : strIn w z = t := by simpa [inD] using e
    clear e
    unfold strIn at ee
    split at ee
    · rename_i c hc
      have ew : w = ⟨#[c]⟩ := by
        obtain ⟨cps⟩ := w
        have : cps = #[c] := by
          have h := congrArg List.toArray hc
          simpa using h
        rw [this]
      subst ew
      exact PyProof.Rows.in_str (fin_bl I q (by rw [← ee]; exact (PySem.StrLaws.found_one z c).symm))
    · exact PyProof.Rows.in_str (fin_bl I q ee.symm)
  | _ => simp [inD] at e
theorem op_notInAll (Z : X.K = G.K) (hu : X.A.units + 65 < cLine) : OpR X (compareOp .NotIn) (rInAll true G) := by
  intro pins s σ H x y v u Q I rx ry h
  obtain ⟨N, a, b, t, ra, rb, e, q⟩ := h
  have q : Q (.bl (!t)) H := by simpa using q
  cases b with
  | lst ys =>
    obtain ⟨ps, p, e1, e2, s1, s2, s3, e3⟩ := seqIn_inv (show seqIn ys a = some t from e)
    obtain ⟨as, r1⟩ := Dp.reads I p x v (Z ▸ ra.dp e2) rx
    obtain ⟨bs, r2⟩ := Dp.reads I (.list ps) y u (Z ▸ rb.dp (by simp only [D.py, e1, Option.map_some])) ry
    have hd := SeqAt.depth_of_shaped s1
    exact SeqAt.notIn_list_reads r2 r1 (SeqAt.canLay_of_shaped s2) (SeqAt.canLay_of_shaped s1) (by have := Nat.min_le_right (PyData.depthAll ps) p.depth; omega) ⟨.bl _, H, I, rfl, e3 ▸ q⟩
  | tup ys =>
    obtain ⟨ps, p, e1, e2, s1, s2, s3, e3⟩ := seqIn_inv (show seqIn ys a = some t from e)
    obtain ⟨as, r1⟩ := Dp.reads I p x v (Z ▸ ra.dp e2) rx
    obtain ⟨bs, r2⟩ := Dp.reads I (.tuple ps) y u (Z ▸ rb.dp (by simp only [D.py, e1, Option.map_some])) ry
    have hd := SeqAt.depth_of_shaped s1
    exact SeqAt.notIn_tuple_reads r2 r1 (SeqAt.canLay_of_shaped s3) (SeqAt.canLay_of_shaped s1) (by have := Nat.min_le_right (PyData.depthAll ps) p.depth; omega) ⟨.bl _, H, I, rfl, e3 ▸ q⟩
  | dic kvs =>
    obtain ⟨c, ks, ev, n, r, rk⟩ := rb
    subst ev
    obtain rfl : u = Value.ref c := ry
    rcases ek : keyOf a with _ | k
    · simp [inD, ek] at e
    · simp only [inD, ek, Option.some.injEq] at e
      have ex := ra.key ek
      subst ex
      refine d_notIn (by omega) I (rk.dget r) rx fun s' I' => ⟨.bl _, H, I', rfl, ?_⟩
      have lk := rk.look (k := k)
      rcases el : lookK kvs k with _ | d
      · rw [el] at lk e
        have lk : valV ks k = none := lk
        rw [lk]
        subst e
        exact q
      · rw [el] at lk e
        obtain ⟨w, hw, _⟩ := (lk : ∃ v, valV ks k = some v ∧ Rep G N H d v)
        rw [hw]
        subst e
        exact q
  | str z =>
    obtain rfl : y = V.str z := rb
    cases a <;> first | (simp [inD] at e; done) | skip
    rename_i w
    obtain rfl : x = V.str w := ra
    obtain ⟨tv, rfl⟩ := rx
    obtain ⟨tu, rfl⟩ := ry
    have ee : strIn w z = t := by simpa [inD] using e
    clear e
    unfold strIn at ee
    split at ee
    · rename_i c hc
      have ew : w = ⟨#[c]⟩ := by
        obtain ⟨cps⟩ := w
        have : cps = #[c] := by
          have h := congrArg List.toArray hc
          simpa using h
        rw [this]
      subst ew
      exact PyProof.Rows.notIn_str (fin_bl I q (by rw [← ee, ← PySem.StrLaws.found_one z c]))
    · exact PyProof.Rows.notIn_str (fin_bl I q (by rw [← ee]))
  | _ => simp [inD] at e
theorem dop_in {neg : Bool} : DOp G X (rInAll neg G) (gIn neg) := by
  refine ⟨gIn_mono _, fun N H a b x y Q ra rb q => ?_⟩
  obtain ⟨t, e, q⟩ := gIn_inv q
  exact ⟨N, a, b, t, ra, rb, e, q _ H (Same.refl H) rfl⟩
end
end Fb
end

section
set_option Elab.async false
set_option linter.all false
set_option maxRecDepth 100000
set_option maxHeartbeats 4000000
/-! Subscripts, slices, fields, tests, displays. -/
namespace Fb
open PySem PySem.Spec PyProof.Rows L2

section
variable {G : Wd} {X : Cx} {Wx : WX}
/-! ### a[b] -/
theorem ixN_lt {n : Nat} {i : Int} {j : Nat} (h : ixN n i = some j) : j < n := (ixN_seq h).2.1
theorem Reps.at {N : Addr → Prop} {H : Hp} {ds : List D} {vs : List V} {i : Int} {d : D} (r : Reps G N H ds vs) (h : atI ds i = some d) : ∃ v, atI vs i = some v ∧ Rep G N H d v := by
  unfold atI at h ⊢
  rw [r.length]
  rcases e : ixN ds.length i with _ | j
  · rw [e] at h; cases h
  · rw [e] at h
    exact Reps.get' r h
def ixD : D → D → Option D
  | .lst xs, .int i => atI xs i
  | .tup xs, .int i => atI xs i
  | .str z, .int i => if z.length ≤ sizeLine then (atI z.cps.toList i).map fun c => .str ⟨#[c]⟩ else none
  | .dic kvs, k => match keyOf k with
    | some k => lookK kvs k
    | none => none
  | _, _ => none
def gIx (x y : D) : W Ex D := match ixD x y with
  | some d => W.ret d
  | none => W.fail
theorem gIx_mono (a b : D) : W.Mono (gIx a b) := by
  unfold gIx
  split
  · exact W.Mono.ret
  · exact W.Mono.fail
theorem gIx_inv {a b : D} {Q : D → Prop} {E : Ex → Prop} (h : gIx a b Q E) : ∃ d, ixD a b = some d ∧ Q d := by
  unfold gIx at h
  rcases e : ixD a b with _ | t
  · rw [e] at h; exact h.elim
  · rw [e] at h; exact ⟨t, rfl, h⟩
def rIxAll (G : Wd) : R2 := fun x y H Q => ∃ N a b d, Rep G N H a x ∧ Rep G N H b y ∧ ixD a b = some d ∧ ∀ v, Rep G N H d v → Q v H
theorem ix_all (Z : X.K = G.K) (hu : X.A.units + 1 < cLine) : IxR X (rIxAll G) := by
  intro value slice pins s σ H x y v u Q I rx ry h hs
  obtain ⟨N, a, b, d, ra, rb, e, q⟩ := h
  cases a with
  | lst xs =>
    cases b <;> first | (simp [ixD] at e; done) | skip
    rename_i i
    obtain ⟨p, vs, ev, n, h1, r1⟩ := ra
    obtain ⟨w, e1, r2⟩ := r1.at (show atI xs i = some d from e)
    exact ix_list value slice pins s σ H x y v u Q I rx ry ⟨p, vs, i, w, ev, rb, .of h1, e1, q w r2⟩ hs
  | tup xs =>
    cases b <;> first | (simp [ixD] at e; done) | skip
    rename_i i
    obtain ⟨p, vs, ev, h1, r1⟩ := ra
    obtain ⟨w, e1, r2⟩ := r1.at (show atI xs i = some d from e)
    exact ix_tup value slice pins s σ H x y v u Q I rx ry ⟨p, vs, i, w, ev, rb, Z ▸ h1.sq, e1, q w r2⟩ hs
  | str z =>
    cases b <;> first | (simp [ixD] at e; done) | skip
    rename_i i
    have e : (if z.length ≤ sizeLine then (atI z.cps.toList i).map fun c => D.str ⟨#[c]⟩ else none) = some d := e
    by_cases hz : z.length ≤ sizeLine
    · rw [if_pos hz] at e
      rcases ec : atI z.cps.toList i with _ | c
      · rw [ec] at e; cases e
      · rw [ec] at e
        cases e
        exact ix_str value slice pins s σ H x y v u Q I rx ry ⟨z, i, c, ra, rb, hz, ec, q _ rfl⟩ hs
    · rw [if_neg hz] at e; cases e
  | dic kvs =>
    obtain ⟨c, ks, ev, n, r, rk⟩ := ra
    subst ev
    obtain rfl : v = Value.ref c := rx
    rcases ek : keyOf b with _ | k
    · simp [ixD, ek] at e
    · have e : lookK kvs k = some d := by simpa [ixD, ek] using e
      have ex := rb.key ek
      subst ex
      have lk := rk.look (k := k)
      rw [e] at lk
      obtain ⟨w, hw, rw'⟩ := (lk : ∃ v, valV ks k = some v ∧ Rep G N H d v)
      have g : DGet H c (kV k) (some w) := hw ▸ rk.dget r
      exact tail_any (dict_typeIs I g) PySem.F.slot_dict_getitem.lookup (d_getItem hu I g ry fun w' s' I' rw2 => ⟨w, H, I', rw2, q w rw'⟩) hs
  | _ => simp [ixD] at e
theorem dop_ix : DOp G X (rIxAll G) gIx := by
  refine ⟨gIx_mono, fun N H a b x y Q ra rb q => ?_⟩
  obtain ⟨d, e, q⟩ := gIx_inv q
  exact ⟨N, a, b, d, ra, rb, e, fun v r => q v H (Same.refl H) (r.sub fun _ => Fr.of)⟩

/-! ### slices -/
def cutD (xs : List D) (lo hi : Option Int) : List D := (xs.drop (HT.sIx xs.length 0 lo)).take (HT.sIx xs.length xs.length hi - HT.sIx xs.length 0 lo)
theorem Reps.drop {N : Addr → Prop} {H : Hp} : ∀ {ds : List D} {vs : List V} (n : Nat), Reps G N H ds vs → Reps G N H (ds.drop n) (vs.drop n)
  | _, _, 0, h => h
  | [], _, n + 1, h => by rw [show _ = [] from h]; exact rfl
  | _ :: _, _, n + 1, ⟨w, ws, e, _, rs⟩ => by subst e; exact Reps.drop n rs
theorem Reps.take {N : Addr → Prop} {H : Hp} : ∀ {ds : List D} {vs : List V} (n : Nat), Reps G N H ds vs → Reps G N H (ds.take n) (vs.take n)
  | _, _, 0, h => rfl
  | [], _, n + 1, h => by rw [show _ = [] from h]; exact rfl
  | _ :: _, _, n + 1, ⟨w, ws, e, r, rs⟩ => by subst e; exact ⟨w, ws.take n, rfl, r, Reps.take n rs⟩
theorem Reps.cut {N : Addr → Prop} {H : Hp} {ds : List D} {vs : List V} {lo hi : Option Int} (r : Reps G N H ds vs) : Reps G N H (cutD ds lo hi) (cutV vs lo hi) := by
  unfold cutD cutV
  rw [r.length]
  exact (r.drop _).take _
/-- a part of a slice -/
structure DO (G : Wd) (X : Cx) (Wx : WX) (e : Option Expr) (m : Ro → W Ex (Option Int)) : Prop where
  po : PO X e (fun σ H Q => ∃ N ρ, ERel G N H σ ρ ∧ m ρ (fun o => ∀ H', Same H H' → Q o H') (PoX G N Wx H σ))
  mono : ∀ ρ, W.Mono (m ρ)
def mNoPart : Ro → W Ex (Option Int) := fun _ => W.ret none
def mPart (m : Ro → W Ex D) : Ro → W Ex (Option Int) := fun ρ => W.bind (m ρ) fun d => match d with
  | .int i => W.ret (some i)
  | _ => W.fail
theorem do_none : DO G X Wx none mNoPart := ⟨⟨fun pins s σ H Q I ⟨N, ρ, r, q⟩ => po_none.run pins s σ H Q I (q H (Same.refl H))⟩, fun _ => W.Mono.ret⟩
theorem do_some {e : Expr} {m : Ro → W Ex D} (h : DE G X Wx e m) : DO G X Wx (some e) (mPart m) := by
  refine ⟨⟨fun pins s σ H Q I ⟨N, ρ, r, q⟩ => (po_some h.pe).run pins s σ H Q I ?_⟩, fun ρ => (h.mono ρ).bind fun d => ?_⟩
  · refine h.go r q (fun x z => z) fun d v H1 z s1 r1 _ => ?_
    cases d <;> first | exact z.elim | skip
    exact ⟨_, r1, z H1 s1⟩
  · split
    · exact W.Mono.ret
    · exact W.Mono.fail
theorem Reps.ofInts {N : Addr → Prop} {H : Hp} : ∀ ns : List Int, Reps G N H (ns.map D.int) (ns.map V.int)
  | [] => rfl
  | i :: r => ⟨.int i, _, rfl, rfl, Reps.ofInts r⟩
def gSl (d : D) (lo hi : Option Int) : Rt := match d with
  | .scr ns => W.ret (true, .lst (cutD (ns.map D.int) lo hi))
  | .lst xs => W.ret (true, .lst (cutD xs lo hi))
  | .tup xs => if HT.sIx xs.length 0 lo = 0 ∧ HT.sIx xs.length xs.length hi = xs.length then W.fail else W.ret (false, .tup (cutD xs lo hi))
  | _ => W.fail
theorem gSl_mono (d : D) (lo hi : Option Int) : W.Mono (gSl d lo hi) := by
  unfold gSl
  split
  · exact W.Mono.ret
  · exact W.Mono.ret
  · exact ite_mono W.Mono.fail W.Mono.ret
  · exact W.Mono.fail
def mSlice (m : Ro → W Ex D) (l h : Ro → W Ex (Option Int)) : Ro → W Ex (Bool × D) := fun ρ => W.bind (m ρ) fun d => W.bind (l ρ) fun lo => W.bind (h ρ) fun hi => gSl d lo hi
/-- a new list at l -/
theorem new_lst {N : Addr → Prop} {H : Hp} {Q : VK} {ds : List D} {vs : List V} (r : Reps G N H ds vs) (q : PoR G N H Q (true, .lst ds)) (l : Addr) (hl : H l = none) : Q (.ref l) (upd H l (.lst vs)) := by
  have s : Same H (upd H l (.lst vs)) := fun b o e => by rw [upd_ne (ne_of_none e hl)]; exact e
  refine q (.ref l) _ s ⟨l, _, rfl, .inr hl, upd_same, (r.same s).sub fun _ z => .inl z⟩ fun _ => ⟨l, rfl, hl, _, upd_same, ?_⟩
  exact r.mono (fun b z y => ⟨.inl z, fun e => y (e ▸ hl)⟩) (Le.of s)
theorem new_tup {N : Addr → Prop} {H : Hp} {Q : VK} {ds : List D} {vs : List V} (r : Reps G N H ds vs) (q : PoR G N H Q (false, .tup ds)) (l : Addr) (hl : H l = none) : Q (.ref l) (upd H l (.tup vs)) := by
  have s : Same H (upd H l (.tup vs)) := fun b o e => by rw [upd_ne (ne_of_none e hl)]; exact e
  exact q (.ref l) _ s ⟨l, _, rfl, .inl upd_same, (r.same s).sub fun _ => Fr.of⟩ fun z => nomatch z
theorem new_dic {N : Addr → Prop} {H : Hp} {Q : VK} {ds : List (Key × D)} {vs : List (Key × V)} (r : RepK G N H ds vs) (q : PoR G N H Q (true, .dic ds)) (l : Addr) (hl : H l = none) : Q (.ref l) (upd H l (.dK vs)) := by
  have s : Same H (upd H l (.dK vs)) := fun b o e => by rw [upd_ne (ne_of_none e hl)]; exact e
  refine q (.ref l) _ s ⟨l, _, rfl, .inr hl, .inl upd_same, RepK.mono (fun b z _ => .inl z) (Le.of s) r⟩ fun _ => ⟨l, rfl, hl, _, upd_same, ?_⟩
  exact RepK.mono (fun b z y => ⟨.inl z, fun e => y (e ▸ hl)⟩) (Le.of s) r
theorem dr_slice {e : Expr} {lo hi : Option Expr} {m : Ro → W Ex D} {l h : Ro → W Ex (Option Int)} {p2 pos : Pos} (Z : X.K = G.K) (he : DE G X Wx e m) (hl : DO G X Wx lo l) (hh : DO G X Wx hi h) : DR G X Wx (.Subscript e (.Slice lo hi none p2) pos) (mSlice m l h) := by
  refine DR.imp (fun ρ => (he.mono ρ).bind fun d => (hl.mono ρ).bind fun _ => (hh.mono ρ).bind fun _ => gSl_mono _ _ _) (pe_slice (sl_list.or sl_tup) he.pe hl.po hh.po) fun N ρ σ H Q r q => ?_
  refine he.go r q (fun x z => z) fun d v H1 z s1 r1 rr1 => ?_
  refine ⟨N, ρ, rr1, (hl.mono ρ).run (fun lo' z H2 s2 => ?_) (fun x z => z.step s1) z⟩
  refine ⟨N, ρ, rr1.same s2, (hh.mono ρ).run (fun hi' z H3 s3 => ?_) (fun x z => z.step (s1.trans s2)) z⟩
  have s : Same H H3 := (s1.trans s2).trans s3
  cases d with
  | scr ns =>
    obtain ⟨p, ev, h1⟩ := r1
    exact .inl ⟨p, _, ev, Z ▸ ((Le.of (s2.trans s3)).scr h1).sq, fun a ha => new_lst (N := Fr N H) (Reps.cut (Reps.ofInts ns)) (PoR.step (h := z) s) a ha⟩
  | lst xs =>
    obtain ⟨p, vs, ev, n, h1, rs⟩ := r1
    exact .inl ⟨p, vs, ev, .of ((s2.trans s3) _ _ h1), fun a ha => new_lst (rs.same (s2.trans s3)).cut (PoR.step (h := z) s) a ha⟩
  | tup xs =>
    obtain ⟨p, vs, ev, h1, rs⟩ := r1
    have e : gSl (.tup xs) lo' hi' = if HT.sIx xs.length 0 lo' = 0 ∧ HT.sIx xs.length xs.length hi' = xs.length then W.fail else W.ret (false, .tup (cutD xs lo' hi')) := rfl
    rw [e] at z
    by_cases c : HT.sIx xs.length 0 lo' = 0 ∧ HT.sIx xs.length xs.length hi' = xs.length
    · rw [if_pos c] at z; exact z.elim
    · rw [if_neg c] at z
      exact .inr ⟨p, vs, ev, Z ▸ ((Le.of (s2.trans s3)).tupT h1).sq, by rw [rs.length]; exact c, fun a ha => new_tup (rs.same (s2.trans s3)).cut (PoR.step (h := z) s) a ha⟩
  | _ => exact z.elim

/-! ### fields -/
theorem RepF.look {N : Addr → Prop} {H : Hp} {f : Str} : ∀ {fs : List (Str × D)} {gs : List (Str × V)} {d : D}, RepF G N H fs gs → fs.lookup f = some d → ∃ v, gs.lookup f = some v ∧ Rep G N H d v
  | [], _, _, h, e => by cases e
  | (k, d') :: r, _, d, ⟨w, ws, ew, rd, rs⟩, e => by
    subst ew
    rw [List.lookup_cons] at e ⊢
    cases hb : f == k with
    | true =>
      rw [hb] at e
      cases e
      exact ⟨w, rfl, rd⟩
    | false =>
      rw [hb] at e
      exact RepF.look rs e
structure ClsD (G : Wd) (c : Str) (C : Addr) : Prop where
  mg : G.mg c = some (.ref C)
  cl : Cls G.K C
def fldD (c f : Str) (d : D) : Option D := match d with
  | .ins c' fs => if c' = c then fs.lookup f else none
  | _ => none
def W.opt (o : Option D) : W Ex D := match o with
  | some d => W.ret d
  | none => W.fail
theorem opt_mono (o : Option D) : W.Mono (W.opt o) := by
  cases o with
  | none => exact W.Mono.fail
  | some d => exact W.Mono.ret
theorem opt_inv {o : Option D} {Q : D → Prop} {E : Ex → Prop} (h : W.opt o Q E) : ∃ d, o = some d ∧ Q d := by
  cases o with
  | none => exact h.elim
  | some d => exact ⟨d, rfl, h⟩
def gFld (c f : Str) (d : D) : W Ex D := W.opt (fldD c f d)
theorem gFld_mono (c f : Str) (d : D) : W.Mono (gFld c f d) := opt_mono _
theorem gFld_inv {c f : Str} {d : D} {Q : D → Prop} {E : Ex → Prop} (h : gFld c f d Q E) : ∃ fs e, d = .ins c fs ∧ fs.lookup f = some e ∧ Q e := by
  obtain ⟨e, h1, h2⟩ := opt_inv h
  cases d with
  | ins c' fs =>
    have h1 : (if c' = c then fs.lookup f else none) = some e := h1
    by_cases hc : c' = c
    · subst hc
      rw [if_pos rfl] at h1
      exact ⟨fs, e, rfl, h1, h2⟩
    · rw [if_neg hc] at h1; cases h1
  | _ => cases h1
def mFld (c f : Str) (m : Ro → W Ex D) : Ro → W Ex D := fun ρ => W.bind (m ρ) (gFld c f)
theorem de_fld {e : Expr} {f c : Str} {C : Addr} {m : Ro → W Ex D} {pos : Pos} (Z : X.K = G.K) (T : ClsD G c C) (nf : NoAttr G.K C f) (he : DE G X Wx e m) (hb : attributeBase e f X.env (eval e X.env) = eval e X.env := by rfl) : DE G X Wx (.Attribute e f pos) (mFld c f m) := by
  refine DE.imp (fun ρ => (he.mono ρ).bind fun _ => gFld_mono _ _ _) (pe_fld he.pe hb) fun N ρ σ H Q r q => ?_
  refine he.go r q (fun x z => z) fun d v H1 z s1 r1 _ => ?_
  obtain ⟨fs, e, rfl, e1, q⟩ := gFld_inv z
  obtain ⟨a, C', dx, gs, ev, hm, ha, rf⟩ := r1
  rw [T.mg] at hm
  cases hm
  obtain ⟨w, e2, r2⟩ := rf.look e1
  exact ⟨a, C, dx, gs, w, ev, ha, Z ▸ T.cl, Z ▸ nf, e2, q w H1 s1 r2⟩

/-! ### tests -/
def asB (d : D) : W Ex Bool := match d with
  | .bl b => W.ret b
  | _ => W.fail
theorem asB_mono (d : D) : W.Mono (asB d) := by
  unfold asB
  split
  · exact W.Mono.ret
  · exact W.Mono.fail
theorem asB_inv {d : D} {Q : Bool → Prop} {E : Ex → Prop} (h : asB d Q E) : ∃ b, d = .bl b ∧ Q b := by
  cases d with
  | bl b => exact ⟨b, rfl, h⟩
  | _ => exact h.elim
def mTest (m : Ro → W Ex D) : Ro → W Ex Bool := fun ρ => W.bind (m ρ) asB
theorem DT.imp2 {e : Expr} {m : Ro → W Ex D} (mono : ∀ ρ, W.Mono (m ρ)) (h : PT X e (tB (tE G Wx m))) : DT G X Wx e (mTest m) :=
  DT.imp (fun ρ => (mono ρ).bind asB_mono) h fun N ρ σ H Q r q => ⟨N, ρ, r, (mono ρ).run (fun d z v H1 s1 r1 => by
    obtain ⟨b, e, q⟩ := asB_inv z
    subst e
    exact ⟨b, r1, q H1 s1⟩) (fun _ z => z) q⟩
theorem dt_val {e : Expr} {m : Ro → W Ex D} (h : DE G X Wx e m) (he : ∀ whole, isTrue e X.env whole = (do let v ← whole; standAt e.pos; holding [v] (truthy v)) := by intro _; rfl) : DT G X Wx e (mTest m) := DT.imp2 h.mono (pt_val h.pe he)
theorem dt_cmp {op : CmpOp} {a b : Expr} {m n : Ro → W Ex D} {r : R2} {g : D → D → W Ex D} {pos : Pos} (ho : OpR X (compareOp op) r) (hg : DOp G X r g) (ha : DE G X Wx a m) (hb : DE G X Wx b n) (hm : behindInMarks op b = false) : DT G X Wx (.Compare a [op] [b] pos) (mTest (mOp g m n)) := by
  refine DT.imp (fun ρ => (mOp_mono hg ha hb ρ).bind asB_mono) (pt_cmpR ho ha.pe hb.pe hm) fun N ρ σ H Q rr q => ?_
  refine op_two (Q := fun x H' => ∃ k, x = .bl k ∧ Q k H') hg ha hb rr ((mOp_mono hg ha hb ρ).run (fun d z v H1 s1 r1 => ?_) (fun _ z => z) q)
  obtain ⟨b, e, q⟩ := asB_inv z
  subst e
  exact ⟨b, r1, q H1 s1⟩
/-- a op b op' c -/
def mChain (g g' : D → D → W Ex D) (m n o : Ro → W Ex D) : Ro → W Ex D := fun ρ => W.bind (m ρ) fun a => W.bind (n ρ) fun b => W.bind (W.calm (g a b)) fun t => W.bind (asB t) fun k => if k = true then W.bind (o ρ) fun c => W.calm (g' b c) else W.ret (.bl false)
theorem chain_mono {a b c : Expr} {m n o : Ro → W Ex D} {r r' : R2} {g g' : D → D → W Ex D} (hg : DOp G X r g) (hg' : DOp G X r' g') (ha : DE G X Wx a m) (hb : DE G X Wx b n) (hc : DE G X Wx c o) (ρ : Ro) : W.Mono (mChain g g' m n o ρ) :=
  (ha.mono ρ).bind fun d => (hb.mono ρ).bind fun e => (hg.1 d e).calm.bind fun t => (asB_mono t).bind fun k => ite_mono ((hc.mono ρ).bind fun c => (hg'.1 e c).calm) W.Mono.ret
theorem chain_go {a b c : Expr} {m n o : Ro → W Ex D} {r r' : R2} {g g' : D → D → W Ex D} (hg : DOp G X r g) (hg' : DOp G X r' g') (ha : DE G X Wx a m) (hb : DE G X Wx b n) (hc : DE G X Wx c o) {N : Addr → Prop} {ρ : Ro} {σ : Fb.St} {H : Hp} {Q : VK} (rr : ERel G N H σ ρ)
    (q : mChain g g' m n o ρ (PoE G N H Q) (PoX G N Wx H σ)) : tChain r r' (tE G Wx m) (tE G Wx n) (tE G Wx o) σ H Q := by
  refine ha.go rr q (fun x z => z) fun d v H1 z s1 r1 rr1 => ?_
  refine hb.go rr1 z (fun x z => z.step s1) fun e u H2 z s2 r2 rr2 => ?_
  have r1' := r1.same s2
  have r2' : Rep G (Fr N H) H2 e u := r2.sub fun _ z => z.step s1
  refine hg.2 (Fr N H) H2 d e v u _ r1' r2' ((hg.1 d e).run (fun t z w H3 s3 r3 => ?_) (fun _ z => z) z)
  obtain ⟨k, e1, z⟩ := asB_inv z
  subst e1
  refine ⟨k, r3, ?_⟩
  cases k with
  | false => exact z (.bl false) H3 ((s1.trans s2).trans s3) rfl
  | true =>
    refine hc.go (rr2.same s3) z (fun x z => z.step ((s1.trans s2).trans s3)) fun c w' H4 z s4 r4 _ => ?_
    refine hg'.2 (Fr N H) H4 e c u w' Q ((r2'.same s3).same s4) (r4.sub fun _ z => z.step ((s1.trans s2).trans s3)) ((hg'.1 e c).run (fun t z w H5 s5 r5 => ?_) (fun _ z => z) z)
    exact z w H5 ((((s1.trans s2).trans s3).trans s4).trans s5) (r5.sub fun _ y => y.fr (((s1.trans s2).trans s3).trans s4))
theorem de_chain {op op' : CmpOp} {a b c : Expr} {m n o : Ro → W Ex D} {r r' : R2} {g g' : D → D → W Ex D} {pos : Pos} (ho : OpR X (compareOp op) r) (ho' : OpR X (compareOp op') r') (hg : DOp G X r g) (hg' : DOp G X r' g') (ha : DE G X Wx a m) (hb : DE G X Wx b n) (hc : DE G X Wx c o)
    (hm : lastMarks [op, op'] [b, c] = false := by with_unfolding_all rfl) : DE G X Wx (.Compare a [op, op'] [b, c] pos) (mChain g g' m n o) :=
  DE.imp (chain_mono hg hg' ha hb hc) (pe_chain ho ho' ha.pe hb.pe hc.pe hm) fun N ρ σ H Q rr q => chain_go hg hg' ha hb hc rr q
theorem dt_chain {op op' : CmpOp} {a b c : Expr} {m n o : Ro → W Ex D} {r r' : R2} {g g' : D → D → W Ex D} {pos : Pos} (ho : OpR X (compareOp op) r) (ho' : OpR X (compareOp op') r') (hg : DOp G X r g) (hg' : DOp G X r' g') (ha : DE G X Wx a m) (hb : DE G X Wx b n) (hc : DE G X Wx c o)
    (hm : lastMarks [op, op'] [b, c] = false := by with_unfolding_all rfl) : DT G X Wx (.Compare a [op, op'] [b, c] pos) (mTest (mChain g g' m n o)) := by
  refine DT.imp (fun ρ => (chain_mono hg hg' ha hb hc ρ).bind asB_mono) (pt_chain ho ho' ha.pe hb.pe hc.pe hm) fun N ρ σ H Q rr q => ?_
  refine chain_go (Q := fun x H' => ∃ k, x = .bl k ∧ Q k H') hg hg' ha hb hc rr ((chain_mono hg hg' ha hb hc ρ).run (fun d z v H1 s1 r1 => ?_) (fun _ z => z) q)
  obtain ⟨b, e, q⟩ := asB_inv z
  subst e
  exact ⟨b, r1, q H1 s1⟩
/-- and, or as tests -/
structure DW (G : Wd) (X : Cx) (Wx : WX) (e : Expr) (m : Ro → W Ex Bool) : Prop where
  pw : PW X e (tT G Wx m)
  mono : ∀ ρ, W.Mono (m ρ)
theorem DW.dt {e : Expr} {m : Ro → W Ex Bool} (h : DW G X Wx e m) : DT G X Wx e m := ⟨h.pw.pt, h.mono⟩
def mAnd (m n : Ro → W Ex Bool) : Ro → W Ex Bool := fun ρ => W.bind (m ρ) fun b => if b = true then n ρ else W.ret false
def mOr (m n : Ro → W Ex Bool) : Ro → W Ex Bool := fun ρ => W.bind (m ρ) fun b => if b = true then W.ret true else n ρ
theorem dw_and1 {a : Expr} {m : Ro → W Ex Bool} {pos : Pos} (h : DT G X Wx a m) : DW G X Wx (.BoolOp .And [a] pos) m := ⟨pw_and1 h.pt, h.mono⟩
theorem dw_or1 {a : Expr} {m : Ro → W Ex Bool} {pos : Pos} (h : DT G X Wx a m) : DW G X Wx (.BoolOp .Or [a] pos) m := ⟨pw_or1 h.pt, h.mono⟩
theorem dw_and {a b : Expr} {rest : List Expr} {m n : Ro → W Ex Bool} {pos : Pos} (h : DT G X Wx a m) (hr : DW G X Wx (.BoolOp .And (b :: rest) pos) n) : DW G X Wx (.BoolOp .And (a :: b :: rest) pos) (mAnd m n) := by
  refine ⟨⟨fun wh pins s σ H Q I ⟨N, ρ, r, q⟩ => (pw_and h.pt hr.pw).run wh pins s σ H Q I ?_⟩, fun ρ => (h.mono ρ).bind fun b => ite_mono (hr.mono ρ) W.Mono.ret⟩
  refine h.go r q (fun x z => z) fun b H1 z s1 rr => ?_
  cases b with
  | true => exact ⟨N, ρ, rr, (hr.mono ρ).run (fun b z H2 s2 => z H2 (s1.trans s2)) (fun x z => z.step s1) z⟩
  | false => exact z H1 s1
theorem dw_or {a b : Expr} {rest : List Expr} {m n : Ro → W Ex Bool} {pos : Pos} (h : DT G X Wx a m) (hr : DW G X Wx (.BoolOp .Or (b :: rest) pos) n) : DW G X Wx (.BoolOp .Or (a :: b :: rest) pos) (mOr m n) := by
  refine ⟨⟨fun wh pins s σ H Q I ⟨N, ρ, r, q⟩ => (pw_or h.pt hr.pw).run wh pins s σ H Q I ?_⟩, fun ρ => (h.mono ρ).bind fun b => ite_mono W.Mono.ret (hr.mono ρ)⟩
  refine h.go r q (fun x z => z) fun b H1 z s1 rr => ?_
  cases b with
  | false => exact ⟨N, ρ, rr, (hr.mono ρ).run (fun b z H2 s2 => z H2 (s1.trans s2)) (fun x z => z.step s1) z⟩
  | true => exact z H1 s1
def mNot (m : Ro → W Ex Bool) : Ro → W Ex Bool := fun ρ => W.bind (m ρ) fun b => W.ret (!b)
theorem dt_not {a : Expr} {m : Ro → W Ex Bool} {pos : Pos} (h : DT G X Wx a m) : DT G X Wx (.UnaryOp .Not a pos) (mNot m) :=
  DT.imp (fun ρ => (h.mono ρ).bind fun _ => W.Mono.ret) (pt_not h.pt) fun N ρ σ H Q r q => h.go r q (fun x z => z) fun b H1 z s1 _ => z H1 s1
/-! ### .. as values -/
def mAndV (m n : Ro → W Ex D) : Ro → W Ex D := fun ρ => W.bind (m ρ) fun d => W.bind (asB d) fun b => if b = true then n ρ else W.ret (.bl false)
def mOrV (m n : Ro → W Ex D) : Ro → W Ex D := fun ρ => W.bind (m ρ) fun d => W.bind (asB d) fun b => if b = true then W.ret (.bl true) else n ρ
def mNotV (m : Ro → W Ex D) : Ro → W Ex D := fun ρ => W.bind (m ρ) fun d => W.bind (asB d) fun b => W.ret (.bl (!b))
theorem de_one {op : BoolOp} {a : Expr} {m : Ro → W Ex D} {pos : Pos} (h : DE G X Wx a m) : DE G X Wx (.BoolOp op [a] pos) m := ⟨pe_one h.pe, h.mono⟩
theorem de_and {a b : Expr} {rest : List Expr} {m n : Ro → W Ex D} {pos : Pos} (h : DE G X Wx a m) (hr : DE G X Wx (.BoolOp .And (b :: rest) pos) n) : DE G X Wx (.BoolOp .And (a :: b :: rest) pos) (mAndV m n) := by
  refine DE.imp (fun ρ => (h.mono ρ).bind fun d => (asB_mono d).bind fun b => ite_mono (hr.mono ρ) W.Mono.ret) (pe_and h.pe hr.pe) fun N ρ σ H Q r q => ?_
  refine h.go r q (fun x z => z) fun d v H1 z s1 r1 rr => ?_
  obtain ⟨b, e, z⟩ := asB_inv z
  subst e
  refine ⟨b, r1, ?_⟩
  cases b with
  | true => exact ⟨N, ρ, rr, (hr.mono ρ).run (fun d z v H2 s2 r2 => z v H2 (s1.trans s2) (r2.sub fun _ y => y.step s1)) (fun x z => z.step s1) z⟩
  | false => exact z _ H1 s1 rfl
theorem de_or {a b : Expr} {rest : List Expr} {m n : Ro → W Ex D} {pos : Pos} (h : DE G X Wx a m) (hr : DE G X Wx (.BoolOp .Or (b :: rest) pos) n) : DE G X Wx (.BoolOp .Or (a :: b :: rest) pos) (mOrV m n) := by
  refine DE.imp (fun ρ => (h.mono ρ).bind fun d => (asB_mono d).bind fun b => ite_mono W.Mono.ret (hr.mono ρ)) (pe_or h.pe hr.pe) fun N ρ σ H Q r q => ?_
  refine h.go r q (fun x z => z) fun d v H1 z s1 r1 rr => ?_
  obtain ⟨b, e, z⟩ := asB_inv z
  subst e
  refine ⟨b, r1, ?_⟩
  cases b with
  | false => exact ⟨N, ρ, rr, (hr.mono ρ).run (fun d z v H2 s2 r2 => z v H2 (s1.trans s2) (r2.sub fun _ y => y.step s1)) (fun x z => z.step s1) z⟩
  | true => exact z _ H1 s1 rfl
theorem de_not {a : Expr} {m : Ro → W Ex D} {pos : Pos} (h : DE G X Wx a m) : DE G X Wx (.UnaryOp .Not a pos) (mNotV m) := by
  refine DE.imp (fun ρ => (h.mono ρ).bind fun d => (asB_mono d).bind fun b => W.Mono.ret) (pe_not h.pe) fun N ρ σ H Q r q => ?_
  refine h.go r q (fun x z => z) fun d v H1 z s1 r1 rr => ?_
  obtain ⟨b, e, z⟩ := asB_inv z
  subst e
  exact ⟨b, r1, z _ H1 s1 rfl⟩
/-- a if t else b -/
def mIfE {α : Type} (c : Ro → W Ex Bool) (m n : Ro → W Ex α) : Ro → W Ex α := fun ρ => W.bind (c ρ) fun b => if b = true then m ρ else n ρ
theorem dr_if {c a b : Expr} {mc : Ro → W Ex Bool} {m n : Ro → W Ex (Bool × D)} {pos : Pos} (hc : DT G X Wx c mc) (ha : DR G X Wx a m) (hb : DR G X Wx b n) : DR G X Wx (.IfExp c a b pos) (mIfE mc m n) := by
  refine DR.imp (fun ρ => (hc.mono ρ).bind fun b => ite_mono (ha.mono ρ) (hb.mono ρ)) (pe_ifExp hc.pt ha.pe hb.pe) fun N ρ σ H Q r q => ?_
  refine hc.go r q (fun x z => z) fun t H1 z s1 rr => ?_
  have back : ∀ p, PoR G N H Q p → PoR G N H1 Q p := fun p z v H2 s2 r2 f2 => z v H2 (s1.trans s2) (r2.sub fun _ y => y.step s1) fun w => by
    obtain ⟨a, e1, e2, e3⟩ := f2 w
    exact ⟨a, e1, s1.free e2, e3.mono (fun b y _ => ⟨y.1.step s1, y.2⟩) (Same.refl H2)⟩
  cases t with
  | true => exact ⟨N, ρ, rr, (ha.mono ρ).run back (fun x z => z.step s1) z⟩
  | false => exact ⟨N, ρ, rr, (hb.mono ρ).run back (fun x z => z.step s1) z⟩
theorem de_if {c a b : Expr} {mc : Ro → W Ex Bool} {m n : Ro → W Ex D} {pos : Pos} (hc : DT G X Wx c mc) (ha : DE G X Wx a m) (hb : DE G X Wx b n) : DE G X Wx (.IfExp c a b pos) (mIfE mc m n) := by
  refine DE.imp (fun ρ => (hc.mono ρ).bind fun b => ite_mono (ha.mono ρ) (hb.mono ρ)) (pe_ifExp hc.pt ha.pe hb.pe) fun N ρ σ H Q r q => ?_
  refine hc.go r q (fun x z => z) fun t H1 z s1 rr => ?_
  cases t with
  | true => exact ⟨N, ρ, rr, (ha.mono ρ).run (fun p z v H2 s2 r2 => z v H2 (s1.trans s2) (r2.sub fun _ y => y.step s1)) (fun x z => z.step s1) z⟩
  | false => exact ⟨N, ρ, rr, (hb.mono ρ).run (fun p z v H2 s2 r2 => z v H2 (s1.trans s2) (r2.sub fun _ y => y.step s1)) (fun x z => z.step s1) z⟩

/-! ### displays -/
def szd {α : Type} (ds : List D) (m : W Ex α) : W Ex α := if ds.length ≤ sizeLine then m else W.fail
def mTup (m : Ro → W Ex (List D)) : Ro → W Ex D := fun ρ => W.bind (m ρ) fun ds => szd ds (W.ret (.tup ds))
def mLst (m : Ro → W Ex (List D)) : Ro → W Ex (Bool × D) := fun ρ => W.bind (m ρ) fun ds => szd ds (W.ret (true, .lst ds))
theorem szd_mono {α : Type} {ds : List D} {m : W Ex α} (h : W.Mono m) : W.Mono (szd ds m) := ite_mono h W.Mono.fail
theorem de_tup {es : List Expr} {m : Ro → W Ex (List D)} {k : Nat} {pos : Pos} (h : DA G X Wx es m) : DE G X Wx (.Tuple es k pos) (mTup m) := by
  refine DE.imp (fun ρ => (h.mono ρ).bind fun _ => szd_mono W.Mono.ret) (pe_tup h.pa) fun N ρ σ H Q r q => ?_
  refine h.go r q (fun x z => z) fun ds vs H1 z s1 r1 _ => ?_
  obtain ⟨hz, z⟩ := ite_ret z
  refine ⟨by rw [r1.length]; exact hz, fun p hp => ?_⟩
  have s : Same H1 (upd H1 p (.tup vs)) := fun b o e => by rw [upd_ne (ne_of_none e hp)]; exact e
  exact z (.ref p) _ (s1.trans s) ⟨p, vs, rfl, .inl upd_same, r1.same s⟩
theorem dr_lst {es : List Expr} {m : Ro → W Ex (List D)} {pos : Pos} (h : DA G X Wx es m) : DR G X Wx (.List es pos) (mLst m) := by
  refine DR.imp (fun ρ => (h.mono ρ).bind fun _ => szd_mono W.Mono.ret) (pe_lst h.pa) fun N ρ σ H Q r q => ?_
  refine h.go r q (fun x z => z) fun ds vs H1 z s1 r1 _ => ?_
  obtain ⟨hz, z⟩ := ite_ret z
  exact ⟨by rw [r1.length]; exact hz, fun p hp => new_lst r1 (PoR.step (h := z) s1) p hp⟩
/-- *e, .. -/
def asSeq (d : D) : W Ex (List D) := match d with
  | .tup xs => W.ret xs
  | .lst xs => W.ret xs
  | _ => W.fail
theorem asSeq_mono (d : D) : W.Mono (asSeq d) := by
  unfold asSeq
  split
  · exact W.Mono.ret
  · exact W.Mono.ret
  · exact W.Mono.fail
def mStar (m : Ro → W Ex D) (n : Ro → W Ex (List D)) : Ro → W Ex (List D) := fun ρ => W.bind (m ρ) fun d => W.bind (asSeq d) fun xs => W.bind (n ρ) fun ds => W.ret (xs ++ ds)
theorem da_star {e : Expr} {es : List Expr} {p : Pos} {m : Ro → W Ex D} {n : Ro → W Ex (List D)} (Z : X.K = G.K) (h : DE G X Wx e m) (hs : DA G X Wx es n) (st : starEach (.Starred e p :: es) X.env = (true, eval e X.env) :: starEach es X.env := by rfl) : DA G X Wx (.Starred e p :: es) (mStar m n) := by
  refine DA.imp (fun ρ => (h.mono ρ).bind fun d => (asSeq_mono d).bind fun xs => (hs.mono ρ).bind fun ds => W.Mono.ret) (StX.pa_star h.pe hs.pa st) fun N ρ σ H Q r q => ?_
  refine h.go r q (fun x z => z) fun d v H1 z s1 r1 rr => ?_
  have fin : ∀ (xs : List D) (vs : List V), Reps G (Fr N H) H1 xs vs → (W.bind (n ρ) fun ds => W.ret (xs ++ ds)) (PoA G N H Q) (PoX G N Wx H σ) → tA G Wx n σ H1 fun ys H2 => Q (vs ++ ys) H2 := fun xs vs rx z =>
    hs.go rr z (fun x z => z.step s1) fun ds ws H2 z s2 r2 _ => z (vs ++ ws) H2 (s1.trans s2) ((rx.same s2).app (r2.sub fun _ y => y.step s1))
  cases d with
  | tup xs =>
    obtain ⟨a, vs, e, hq, rx⟩ := r1
    exact ⟨a, vs, e, .inl (Z ▸ hq.sq), fin xs vs rx z⟩
  | lst xs =>
    obtain ⟨a, vs, e, _, hq, rx⟩ := r1
    exact ⟨a, vs, e, .inr (.of hq), fin xs vs rx z⟩
  | _ => exact z.elim
/-- {} -/
def mDic0 : Ro → W Ex (Bool × D) := fun _ => W.ret (true, .dic [])
theorem dr_dic0 {pos : Pos} : DR G X Wx (.Dict [] [] pos) mDic0 :=
  DR.imp (fun _ => W.Mono.ret) pe_dnewK fun N ρ σ H Q r q p hp => new_dic (ds := []) (vs := []) rfl q p hp
end
end Fb
end

section
set_option Elab.async false
set_option linter.all false
set_option maxRecDepth 100000
set_option maxHeartbeats 4000000
/-! Built-in functions and types over data. -/
namespace Fb
open PySem PySem.Spec PyProof.Rows L2

/-- a built-in's reading by data -/
def rD (G : Wd) (g : List D → Rt) : List V → Hp → VK → Prop := fun vs H Q => ∃ N ds, Reps G N H ds vs ∧ g ds (PoR G N H Q) (fun _ => False)
def mBlt (g : List D → Rt) (m : Ro → W Ex (List D)) : Ro → W Ex (Bool × D) := fun ρ => W.bind (m ρ) fun ds => W.calm (g ds)
section
variable {G : Wd} {X : Cx} {Wx : WX}
theorem blt_go {es : List Expr} {m : Ro → W Ex (List D)} {g : List D → Rt} (hg : ∀ ds, W.Mono (g ds)) (ha : DA G X Wx es m) {N : Addr → Prop} {ρ : Ro} {σ : Fb.St} {H : Hp} {Q : VK} (r : ERel G N H σ ρ) (q : mBlt g m ρ (PoR G N H Q) (PoX G N Wx H σ)) : tCB (rD G g) (tA G Wx m) σ H Q :=
  ha.go r q (fun x z => z) fun ds vs H1 z s1 r1 _ => ⟨_, ds, r1, (hg ds).run (fun p z => z.step s1) (fun _ z => z) z⟩
theorem dr_callB {x : Str} {id : String} {e : Expr} {es : List Expr} {p pos : Pos} {m : Ro → W Ex (List D)} {g : List D → Rt} (hg : ∀ ds, W.Mono (g ds)) (hc : CallR X (.builtin id) (rD G g)) (hm : G.mg x = none) (Z : X.mg = G.mg) (hv : bootBuiltins x = some (.builtin id)) (hG : Gl X x) (ha : DA G X Wx (e :: es) m)
    (hn : x ≠ "__name__" := by decide) (hdb : (x == ("__debug__" : Str)) = false := by decide) (he : starEach (e :: es) X.env = (false, eval e X.env) :: starEach es X.env := by rfl) (hpl : (backTo pos (starEach es X.env)).any (·.1) = false := by rfl) : DR G X Wx (.Call (.Name x p) (e :: es) [] pos) (mBlt g m) :=
  DR.imp (fun ρ => (ha.mono ρ).bind fun ds => (hg ds).calm) (pe_callB hc hG (Z ▸ hm) hv ha.pa hn hdb he hpl) fun N ρ σ H Q r q => blt_go hg ha r q
theorem dr_callTy {x : Str} {id : String} {e : Expr} {es : List Expr} {p pos : Pos} {m : Ro → W Ex (List D)} {g : List D → Rt} (hg : ∀ ds, W.Mono (g ds)) (hc : CallR X (.type id) (rD G g)) (hm : G.mg x = none) (Z : X.mg = G.mg) (hv : bootBuiltins x = some (.type id)) (hG : Gl X x) (ha : DA G X Wx (e :: es) m)
    (hn : x ≠ "__name__" := by decide) (hdb : (x == ("__debug__" : Str)) = false := by decide) (he : starEach (e :: es) X.env = (false, eval e X.env) :: starEach es X.env := by rfl) (hpl : (backTo pos (starEach es X.env)).any (·.1) = false := by rfl) : DR G X Wx (.Call (.Name x p) (e :: es) [] pos) (mBlt g m) :=
  DR.imp (fun ρ => (ha.mono ρ).bind fun ds => (hg ds).calm) (pe_callTy hc hG (Z ▸ hm) hv ha.pa hn hdb he hpl) fun N ρ σ H Q r q => blt_go hg ha r q

theorem Reps.one_inv {N : Addr → Prop} {H : Hp} {d : D} {vs : List V} (r : Reps G N H [d] vs) : ∃ v, vs = [v] ∧ Rep G N H d v := by
  obtain ⟨w, ws, e, r1, r2⟩ := r
  rw [show ws = [] from r2] at e
  exact ⟨w, e, r1⟩
theorem Reps.two_inv {N : Addr → Prop} {H : Hp} {d e : D} {vs : List V} (r : Reps G N H [d, e] vs) : ∃ v w, vs = [v, w] ∧ Rep G N H d v ∧ Rep G N H e w := by
  obtain ⟨w, ws, e, r1, r2⟩ := r
  obtain ⟨u, e2, r3⟩ := Reps.one_inv r2
  subst e2
  exact ⟨w, u, e, r1, r3⟩
/-- a built-in of one value without a new object -/
def g1 (f : D → Option D) : List D → Rt := fun ds => match ds with
  | [d] => (match f d with
    | some e => W.ret (false, e)
    | none => W.fail)
  | _ => W.fail
theorem g1_mono (f : D → Option D) (ds : List D) : W.Mono (g1 f ds) := by
  unfold g1
  split
  · split
    · exact W.Mono.ret
    · exact W.Mono.fail
  · exact W.Mono.fail
theorem g1_inv {f : D → Option D} {ds : List D} {Q : Bool × D → Prop} {E : Ex → Prop} (h : g1 f ds Q E) : ∃ d e, ds = [d] ∧ f d = some e ∧ Q (false, e) := by
  rcases ds with _ | ⟨d, _ | ⟨d', ds⟩⟩
  · exact h.elim
  · have h : (match f d with | some e => W.ret (false, e) | none => W.fail : Rt) Q E := h
    rcases e : f d with _ | x
    · rw [e] at h; exact h.elim
    · rw [e] at h; exact ⟨d, x, rfl, e, h⟩
  · exact h.elim
theorem cr_g1 {f : Value} {r : V → Hp → VK → Prop} {g : D → Option D} (hf : ∀ (pins : List (Addr × Obj)) (s : Shared) (σ : L2.St) (H : Hp) (N : Addr → Prop) (d e : D) (x : V) (u : Value) (Q : VK), Inv X pins σ H s → RelV x u → Rep G N H d x → g d = some e → (∀ v, Rep G (Fr N H) H e v → Q v H) →
    wpAny (model X.prog X.w) X.A (call f [u]) (EP X pins σ Q) X.xe s) : CallR X f (rD G (g1 g)) := by
  intro pins s σ H xs us Q I r h
  obtain ⟨N, ds, rr, q⟩ := h
  obtain ⟨d, e, rfl, e1, q⟩ := g1_inv q
  obtain ⟨v, rfl, r1⟩ := rr.one_inv
  obtain ⟨u, rfl, rx⟩ := vals1 r
  exact hf pins s σ H N d e v u Q I rx r1 e1 fun w rw' => q w H (Same.refl H) rw' fun z => nomatch z

/-! ### len, str, int, abs -/
def lenD : D → Option D
  | .str x => if x.length ≤ sizeLine then some (.int x.length) else none
  | .tup xs => some (.int xs.length)
  | .lst xs => some (.int xs.length)
  | .dic xs => some (.int xs.length)
  | .scr ns => some (.int ns.length)
  | _ => none
theorem bl_len (Z : X.K = G.K) : CallR X (.builtin "len") (rD G (g1 lenD)) := cr_g1 (r := fun _ _ _ => True) fun pins s σ H N d e x u Q I rx rd h q => by
  cases d with
  | str z =>
    have h : (if z.length ≤ sizeLine then some (D.int z.length) else none) = some e := h
    by_cases hz : z.length ≤ sizeLine
    · rw [if_pos hz] at h
      cases h
      exact call_len_str pins s σ H [x] [u] Q I (.cons rx .nil) ⟨z, by rw [show x = .str z from rd], hz, q _ rfl⟩
    · rw [if_neg hz] at h; cases h
  | tup ds =>
    obtain ⟨a, vs, ev, hq, rs⟩ := rd
    cases (show some (D.int ds.length) = some e from h)
    exact call_len_seq pins s σ H [x] [u] Q I (.cons rx .nil) ⟨a, vs, by rw [ev], .inr (Z ▸ hq.sq), q _ (by rw [rs.length]; rfl)⟩
  | lst ds =>
    obtain ⟨a, vs, ev, n, hq, rs⟩ := rd
    cases (show some (D.int ds.length) = some e from h)
    exact call_len_seq pins s σ H [x] [u] Q I (.cons rx .nil) ⟨a, vs, by rw [ev], .inl (.of hq), q _ (by rw [rs.length]; rfl)⟩
  | dic ds =>
    obtain ⟨a, vs, ev, n, hq, rs⟩ := rd
    cases (show some (D.int ds.length) = some e from h)
    subst ev
    obtain rfl : u = Value.ref a := rx
    exact d_len I hq fun t s' I' => ⟨.int vs.length, H, I', ⟨t, rfl⟩, q _ (by rw [rs.length]; rfl)⟩
  | scr ns =>
    obtain ⟨a, ev, hq⟩ := rd
    cases (show some (D.int ns.length) = some e from h)
    exact call_len_seq pins s σ H [x] [u] Q I (.cons rx .nil) ⟨a, _, by rw [ev], .inl (Z ▸ hq.sq), q _ (by rw [List.length_map]; rfl)⟩
  | _ => cases h
def strD : D → Option D
  | .str x => some (.str x)
  | .int i => if i.natAbs.log2 < 1920 then some (.str (toString i)) else none
  | _ => none
theorem bl_str : CallR X (.type "str") (rD G (g1 strD)) := cr_g1 (r := fun _ _ _ => True) fun pins s σ H N d e x u Q I rx rd h q => by
  cases d with
  | str z =>
    cases (show some (D.str z) = some e from h)
    exact SkE.call_str_str pins s σ H [x] [u] Q I (.cons rx .nil) ⟨z, by rw [show x = .str z from rd], q _ rfl⟩
  | int i =>
    have h : (if i.natAbs.log2 < 1920 then some (D.str (toString i)) else none) = some e := h
    by_cases hz : i.natAbs.log2 < 1920
    · rw [if_pos hz] at h
      cases h
      exact call_str_int pins s σ H [x] [u] Q I (.cons rx .nil) ⟨i, by rw [show x = .int i from rd], hz, q _ rfl⟩
    · rw [if_neg hz] at h; cases h
  | _ => cases h
def intD : D → Option D
  | .int i => some (.int i)
  | .bl b => some (.int (if b then 1 else 0))
  | .str x => if x.length ≤ 640 then (PySem.intText? x).map .int else none
  | _ => none
theorem bl_int : CallR X (.type "int") (rD G (g1 intD)) := cr_g1 (r := fun _ _ _ => True) fun pins s σ H N d e x u Q I rx rd h q => by
  cases d with
  | int i =>
    cases (show some (D.int i) = some e from h)
    exact call_int1 pins s σ H [x] [u] Q I (.cons rx .nil) (.inl ⟨i, by rw [show x = .int i from rd], q _ rfl⟩)
  | bl b =>
    cases (show some (D.int (if b then 1 else 0)) = some e from h)
    exact call_int1 pins s σ H [x] [u] Q I (.cons rx .nil) (.inr ⟨b, by rw [show x = .bl b from rd], q _ rfl⟩)
  | str z =>
    have h : (if z.length ≤ 640 then (PySem.intText? z).map D.int else none) = some e := h
    by_cases hz : z.length ≤ 640
    · rw [if_pos hz] at h
      rcases en : PySem.intText? z with _ | n
      · rw [en] at h; cases h
      · rw [en] at h
        cases h
        exact call_int_str pins s σ H [x] [u] Q I (.cons rx .nil) ⟨z, n, by rw [show x = .str z from rd], en, hz, q _ rfl⟩
    · rw [if_neg hz] at h; cases h
  | _ => cases h
def absD : D → Option D
  | .int i => some (.int (if i < 0 then -i else i))
  | _ => none
theorem bl_abs : CallR X (.builtin "abs") (rD G (g1 absD)) := cr_g1 (r := fun _ _ _ => True) fun pins s σ H N d e x u Q I rx rd h q => by
  cases d with
  | int i =>
    cases (show some (D.int (if i < 0 then -i else i)) = some e from h)
    exact call_abs pins s σ H [x] [u] Q I (.cons rx .nil) ⟨i, by rw [show x = .int i from rd], q _ rfl⟩
  | _ => cases h

/-! ### all, any -/
def blsOf : List D → Option (List Bool)
  | [] => some []
  | .bl b :: r => (blsOf r).map (b :: ·)
  | _ :: _ => none
theorem Reps.bls {N : Addr → Prop} {H : Hp} : ∀ {ds : List D} {vs : List V} {bs : List Bool}, Reps G N H ds vs → blsOf ds = some bs → vs = bs.map V.bl
  | [], _, _, h, e => by cases e; exact h
  | d :: ds, _, bs, ⟨w, ws, ev, r, rs⟩, e => by
    cases d <;> first | (cases e; done) | skip
    rename_i b
    have e : (blsOf ds).map (b :: ·) = some bs := e
    rcases e2 : blsOf ds with _ | cs
    · rw [e2] at e; cases e
    · rw [e2] at e
      cases e
      rw [ev, show w = .bl b from r, Reps.bls rs e2]
      rfl
def allD : D → Option D
  | .lst ds => (blsOf ds).map fun bs => .bl (bs.all id)
  | _ => none
def anyD : D → Option D
  | .lst ds => (blsOf ds).map fun bs => .bl (bs.any id)
  | _ => none
theorem bl_all (hc : X.calm = true) : CallR X (.builtin "all") (rD G (g1 allD)) := cr_g1 (r := fun _ _ _ => True) fun pins s σ H N d e x u Q I rx rd h q => by
  cases d with
  | lst ds =>
    have h : (blsOf ds).map (fun bs => D.bl (bs.all id)) = some e := h
    rcases eb : blsOf ds with _ | bs
    · rw [eb] at h; cases h
    · rw [eb] at h
      cases h
      obtain ⟨a, vs, ev, n, hq, rs⟩ := rd
      exact cr_all hc pins s σ H [x] [u] Q I (.cons rx .nil) ⟨a, bs, by rw [ev], .of (by rw [← rs.bls eb]; exact hq), q _ rfl⟩
  | _ => cases h
theorem bl_any (hc : X.calm = true) : CallR X (.builtin "any") (rD G (g1 anyD)) := cr_g1 (r := fun _ _ _ => True) fun pins s σ H N d e x u Q I rx rd h q => by
  cases d with
  | lst ds =>
    have h : (blsOf ds).map (fun bs => D.bl (bs.any id)) = some e := h
    rcases eb : blsOf ds with _ | bs
    · rw [eb] at h; cases h
    · rw [eb] at h
      cases h
      obtain ⟨a, vs, ev, n, hq, rs⟩ := rd
      exact cr_any hc pins s σ H [x] [u] Q I (.cons rx .nil) ⟨a, bs, by rw [ev], .of (by rw [← rs.bls eb]; exact hq), q _ rfl⟩
  | _ => cases h

/-! ### min, max of two or of a list of ints; isinstance -/
def intsOf : List D → Option (List Int)
  | [] => some []
  | .int b :: r => (intsOf r).map (b :: ·)
  | _ :: _ => none
def mmL (mx : Bool) : List Int → Option Int
  | [] => none
  | n :: ns => some (ns.foldl (fun a b => if mx then max a b else min a b) n)
def gMM (mx : Bool) : List D → Rt := fun ds => match ds with
  | [.int i, .int j] => W.ret (false, .int (if mx then (if j > i then j else i) else (if j < i then j else i)))
  | [.lst xs] => (match (intsOf xs).bind (mmL mx) with
    | some n => W.ret (false, .int n)
    | none => W.fail)
  | _ => W.fail
theorem gMM_mono (mx : Bool) (ds : List D) : W.Mono (gMM mx ds) := by
  unfold gMM
  split
  · exact W.Mono.ret
  · split
    · exact W.Mono.ret
    · exact W.Mono.fail
  · exact W.Mono.fail
theorem gMM_inv {mx : Bool} {ds : List D} {Q : Bool × D → Prop} {E : Ex → Prop} (h : gMM mx ds Q E) :
    (∃ i j, ds = [.int i, .int j] ∧ Q (false, .int (if mx then (if j > i then j else i) else (if j < i then j else i)))) ∨ ∃ xs n ns, ds = [.lst xs] ∧ intsOf xs = some (n :: ns) ∧ Q (false, .int (ns.foldl (fun a b => if mx then max a b else min a b) n)) := by
  rcases ds with _ | ⟨d, _ | ⟨e, _ | ⟨f, ds⟩⟩⟩
  · exact h.elim
  · cases d <;> first | exact h.elim | skip
    rename_i xs
    have h : (match (intsOf xs).bind (mmL mx) with | some n => W.ret (false, .int n) | none => W.fail : Rt) Q E := h
    rcases e : intsOf xs with _ | _ | ⟨n, ns⟩
    · rw [e] at h; exact h.elim
    · rw [e] at h; exact h.elim
    · rw [e] at h; exact .inr ⟨xs, n, ns, rfl, e, h⟩
  · cases d <;> cases e <;> first | exact h.elim | skip
    exact .inl ⟨_, _, rfl, h⟩
  · cases d <;> cases e <;> exact h.elim
theorem Reps.ints {N : Addr → Prop} {H : Hp} : ∀ {ds : List D} {vs : List V} {ns : List Int}, Reps G N H ds vs → intsOf ds = some ns → vs = ns.map V.int
  | [], _, ns, h, e => by cases e; exact h
  | d :: ds, _, ns, ⟨w, ws, ev, r, rs⟩, e => by
    cases d <;> first | (cases e; done) | skip
    rename_i i
    have e : (intsOf ds).map (i :: ·) = some ns := e
    rcases e2 : intsOf ds with _ | cs
    · rw [e2] at e; cases e
    · rw [e2] at e
      cases e
      rw [ev, show w = .int i from r, Reps.ints rs e2]
      rfl
theorem foldl_max (n : Int) (ns : List Int) : ns.foldl max n ∈ n :: ns ∧ ∀ y ∈ n :: ns, y ≤ ns.foldl max n := by
  induction ns generalizing n with
  | nil => simp
  | cons a r ih =>
    rw [List.foldl_cons]
    obtain ⟨h1, h2⟩ := ih (max n a)
    refine ⟨?_, fun y hy => ?_⟩
    · rcases List.mem_cons.mp h1 with e | e
      · rw [e]
        rcases Int.le_total n a with z | z
        · rw [Int.max_eq_right z]; simp
        · rw [Int.max_eq_left z]; simp
      · simp [e]
    · have h3 := h2 (max n a) (by simp)
      have := Int.le_max_left n a
      have := Int.le_max_right n a
      rcases List.mem_cons.mp hy with e | hy
      · omega
      · rcases List.mem_cons.mp hy with e | hy
        · omega
        · exact h2 y (by simp [hy])
theorem foldl_min (n : Int) (ns : List Int) : ns.foldl min n ∈ n :: ns ∧ ∀ y ∈ n :: ns, ns.foldl min n ≤ y := by
  induction ns generalizing n with
  | nil => simp
  | cons a r ih =>
    rw [List.foldl_cons]
    obtain ⟨h1, h2⟩ := ih (min n a)
    refine ⟨?_, fun y hy => ?_⟩
    · rcases List.mem_cons.mp h1 with e | e
      · rw [e]
        rcases Int.le_total n a with z | z
        · rw [Int.min_eq_left z]; simp
        · rw [Int.min_eq_right z]; simp
      · simp [e]
    · have h3 := h2 (min n a) (by simp)
      have := Int.min_le_left n a
      have := Int.min_le_right n a
      rcases List.mem_cons.mp hy with e | hy
      · omega
      · rcases List.mem_cons.mp hy with e | hy
        · omega
        · exact h2 y (by simp [hy])
theorem bl_max (hc : X.calm = true) : CallR X (.builtin "max") (rD G (gMM true)) := by
  intro pins s σ H xs us Q I r h
  obtain ⟨N, ds, rr, q⟩ := h
  rcases gMM_inv q with ⟨i, j, rfl, q⟩ | ⟨xs, n, ns, rfl, e, q⟩
  · obtain ⟨v, w, rfl, r1, r2⟩ := rr.two_inv
    exact call_max2 hc pins s σ H _ us Q I r ⟨i, j, by rw [show v = .int i from r1, show w = .int j from r2], q _ H (Same.refl H) rfl fun z => nomatch z⟩
  · obtain ⟨v, rfl, r1⟩ := rr.one_inv
    obtain ⟨a, vs, ev, _, hq, rs⟩ := r1
    have hm := rs.ints e
    refine cr_max hc pins s σ H _ us Q I r ⟨a, n :: ns, by rw [ev], .of (by rw [← hm]; exact hq), by simp, fun m h1 h2 => ?_⟩
    obtain ⟨g1, g2⟩ := foldl_max n ns
    have : m = ns.foldl max n := Int.le_antisymm (g2 m h1) (h2 _ g1)
    rw [this]
    exact q _ H (Same.refl H) rfl fun z => nomatch z
theorem bl_min (hc : X.calm = true) : CallR X (.builtin "min") (rD G (gMM false)) := by
  intro pins s σ H xs us Q I r h
  obtain ⟨N, ds, rr, q⟩ := h
  rcases gMM_inv q with ⟨i, j, rfl, q⟩ | ⟨xs, n, ns, rfl, e, q⟩
  · obtain ⟨v, w, rfl, r1, r2⟩ := rr.two_inv
    exact call_min2 hc pins s σ H _ us Q I r ⟨i, j, by rw [show v = .int i from r1, show w = .int j from r2], q _ H (Same.refl H) rfl fun z => nomatch z⟩
  · obtain ⟨v, rfl, r1⟩ := rr.one_inv
    obtain ⟨a, vs, ev, _, hq, rs⟩ := r1
    have hm := rs.ints e
    refine cr_min hc pins s σ H _ us Q I r ⟨a, n :: ns, by rw [ev], .of (by rw [← hm]; exact hq), by simp, fun m h1 h2 => ?_⟩
    obtain ⟨g1, g2⟩ := foldl_min n ns
    have : m = ns.foldl min n := Int.le_antisymm (h2 _ g1) (g2 m h1)
    rw [this]
    exact q _ H (Same.refl H) rfl fun z => nomatch z
def tyName : D → Option String
  | .non => some "NoneType"
  | .bl _ => some "bool"
  | .int _ => some "int"
  | .str _ => some "str"
  | .tup _ => some "tuple"
  | .lst _ => some "list"
  | .dic _ => some "dict"
  | _ => none
theorem Rep.tyX {N : Addr → Prop} {H : Hp} {d : D} {v : V} {n : String} (r : Rep G N H d v) (h : tyName d = some n) : TyX G.K H v (.type n) := by
  cases d with
  | non => cases h; rw [show v = .non from r]; exact .base .non
  | bl b => cases h; rw [show v = .bl b from r]; exact .base (.bl b)
  | int b => cases h; rw [show v = .int b from r]; exact .base (.int b)
  | str b => cases h; rw [show v = .str b from r]; exact .base (.str b)
  | tup ds =>
    cases h
    obtain ⟨a, vs, e, q, _⟩ := r
    subst e
    rcases q with q | ⟨o, its, n, q, c, _⟩
    · exact .base (.tup q)
    · exact .kTuple q c
  | lst ds =>
    cases h
    obtain ⟨a, vs, e, _, q, _⟩ := r
    subst e
    exact .base (.lst q)
  | dic ds =>
    cases h
    obtain ⟨a, vs, e, _, q, _⟩ := r
    subst e
    rcases q with q | ⟨o, q⟩
    · exact .base (.dK q)
    · exact .fDict q
  | _ => cases h
def kitAnyS (t : String) : List String → Option Bool
  | [] => some false
  | n :: r => match kitB t n with
    | some true => some true
    | some false => kitAnyS t r
    | none => none
def tysOf : List D → Option (List String)
  | [] => some []
  | .ty n :: r => (tysOf r).map (n :: ·)
  | _ :: _ => none
def isiD (d : D) : D → Option Bool
  | .ty n => (tyName d).bind fun t => kitB t n
  | .tup cs => (tysOf cs).bind fun ns => (tyName d).bind fun t => kitAnyS t ns
  | _ => none
def g2 (f : D → D → Option D) : List D → Rt := fun ds => match ds with
  | [d, e] => (match f d e with
    | some x => W.ret (false, x)
    | none => W.fail)
  | _ => W.fail
theorem g2_mono (f : D → D → Option D) (ds : List D) : W.Mono (g2 f ds) := by
  unfold g2
  split
  · split
    · exact W.Mono.ret
    · exact W.Mono.fail
  · exact W.Mono.fail
theorem g2_inv {f : D → D → Option D} {ds : List D} {Q : Bool × D → Prop} {E : Ex → Prop} (h : g2 f ds Q E) : ∃ d e x, ds = [d, e] ∧ f d e = some x ∧ Q (false, x) := by
  rcases ds with _ | ⟨d, _ | ⟨e, _ | ⟨f', ds⟩⟩⟩
  · exact h.elim
  · exact h.elim
  · have h : (match f d e with | some x => W.ret (false, x) | none => W.fail : Rt) Q E := h
    rcases e2 : f d e with _ | x
    · rw [e2] at h; exact h.elim
    · rw [e2] at h; exact ⟨d, e, x, rfl, e2, h⟩
  · exact h.elim
def gIsi : List D → Rt := g2 fun d c => (isiD d c).map .bl
theorem kitAnyS_of {K : PySem.W.Frag} {t : String} : ∀ {ns : List String} {b : Bool}, kitAnyS t ns = some b → PySem.W.kitAny K (.type t) (ns.map Value.type) = some b
  | [], b, h => by cases h; exact kitAny_nil
  | n :: ns, b, h => by
    have h : (match kitB t n with | some true => some true | some false => kitAnyS t ns | none => none) = some b := h
    rcases e2 : kitB t n with _ | k
    · rw [e2] at h; cases h
    · rw [e2] at h
      have e3 : PySem.W.kitOne K (.type t) (.type n) = some k := kit_ty e2
      cases k with
      | true =>
        cases h
        exact kitAny_cons e3 (fun z => nomatch z) fun _ => rfl
      | false => exact kitAny_cons e3 (fun _ => kitAnyS_of h) fun z => nomatch z
theorem Reps.tys {N : Addr → Prop} {H : Hp} : ∀ {ds : List D} {vs : List V} {ns : List String}, Reps G N H ds vs → tysOf ds = some ns → vs = ns.map V.ty
  | [], _, _, h, e => by cases e; exact h
  | d :: ds, _, bs, ⟨w, ws, ev, r, rs⟩, e => by
    cases d <;> first | (cases e; done) | skip
    rename_i b
    have e : (tysOf ds).map (b :: ·) = some bs := e
    rcases e2 : tysOf ds with _ | cs
    · rw [e2] at e; cases e
    · rw [e2] at e
      cases e
      rw [ev, show w = .ty b from r, Reps.tys rs e2]
      rfl
theorem paired_tys : ∀ ns : List String, Paired ClsV (ns.map V.ty) (ns.map Value.type)
  | [] => .nil
  | n :: ns => .cons (.ty n) (paired_tys ns)
theorem bl_isi (Z : X.K = G.K) : CallR X (.builtin "isinstance") (rD G gIsi) := by
  intro pins s σ H xs us Q I r h
  obtain ⟨N, ds, rr, q⟩ := h
  obtain ⟨d, c, x, rfl, e, q⟩ := g2_inv q
  obtain ⟨v, w, rfl, r1, r2⟩ := rr.two_inv
  rcases eb : isiD d c with _ | b
  · rw [eb] at e; cases e
  · rw [eb] at e
    cases e
    have fin : Q (.bl b) H := q _ H (Same.refl H) rfl fun z => nomatch z
    cases c with
    | ty n =>
      have eb : (tyName d).bind (fun t => kitB t n) = some b := eb
      rcases et : tyName d with _ | t
      · rw [et] at eb; cases eb
      · rw [et] at eb
        exact call_isi pins s σ H _ us Q I r ⟨v, w, .type t, .type n, b, rfl, by rw [show w = .ty n from r2]; exact .ty n, Z ▸ r1.tyX et, kit_ty eb, fin⟩
    | tup cs =>
      have eb : (tysOf cs).bind (fun ns => (tyName d).bind fun t => kitAnyS t ns) = some b := eb
      rcases ec : tysOf cs with _ | ns
      · rw [ec] at eb; cases eb
      · rcases et : tyName d with _ | t
        · rw [ec, et] at eb; cases eb
        · rw [ec, et] at eb
          obtain ⟨tp, vs, ev, hq, rs⟩ := r2
          have hv := rs.tys ec
          subst ev hv
          rcases hq with hq | ⟨⟨oc, od, odt, osl⟩, its, n, hq, hc, hd, hz, rv⟩
          · exact call_isiT pins s σ H _ us Q I r ⟨v, tp, _, .type t, _, b, rfl, hq, paired_tys ns, Z ▸ r1.tyX et, kitAnyS_of eb, fin⟩
          · have e3 := ClsV.all (paired_tys ns) rv
            have e4 : its = (ns.map Value.type).toArray := by rw [← e3]
            simp only at hc hd
            subst hc hd e4
            exact call_isiK pins s σ H _ us Q I r ⟨v, tp, od, _, n, osl, .type t, b, rfl, Z ▸ hq, Z ▸ r1.tyX et, kitAnyS_of eb, fin⟩
    | _ => cases eb
end
end Fb
end

section
set_option Elab.async false
set_option linter.all false
set_option maxRecDepth 100000
set_option maxHeartbeats 4000000
/-! Walks: what a loop or a block goes over; for; list blocks. -/
namespace Fb
open PySem PySem.Spec PyProof.Rows L2

/-! ### what stays, but for lists and dicts outside N -/
def LeX (N : Addr → Prop) (H H' : Hp) : Prop := ∀ a o, H a = some o → (N a ∨ ¬ isM o) → H' a = some o
section
variable {G : Wd} {N N' : Addr → Prop} {H H' : Hp}
theorem LeX.tupT {K : PySem.W.Frag} (h : LeX N H H') {a : Addr} {xs : List V} (r : TupAt K H a xs) : TupAt K H' a xs := r.elim (fun e => .inl (h a _ e (.inr id))) .inr
theorem LeX.rd (h : LeX N H H') {a : Addr} {ks : List (Key × V)} (n : N a) (r : Rd H a (.dK ks)) : Rd H' a (.dK ks) := by
  rcases r with e | ⟨o, e⟩
  · exact .inl (h a _ e (.inl n))
  · exact .inr ⟨o, h a _ e (.inl n)⟩
theorem LeX.scr {K : PySem.W.Frag} (h : LeX N H H') {a : Addr} {ns : List Int} (r : ScrAt K H a ns) : ScrAt K H' a ns := r.elim (fun ⟨o, e⟩ => .inl ⟨o, h a _ e (.inr id)⟩) .inr
mutual
theorem Rep.monoX (hN : ∀ a, N a → H a ≠ none → N' a) (hL : LeX N H H') : ∀ {d : D} {v : V}, Rep G N H d v → Rep G N' H' d v
  | .non, _, h => h
  | .bl _, _, h => h
  | .int _, _, h => h
  | .str _, _, h => h
  | .tup ds, _, ⟨a, vs, e, q, r⟩ => ⟨a, vs, e, hL.tupT q, Reps.monoX hN hL r⟩
  | .lst ds, _, ⟨a, vs, e, n, q, r⟩ => ⟨a, vs, e, hN a n (Rd.some (.inl q)), hL a _ q (.inl n), Reps.monoX hN hL r⟩
  | .dic kvs, _, ⟨a, ks, e, n, q, r⟩ => ⟨a, ks, e, hN a n (Rd.some q), hL.rd n q, RepK.monoX hN hL r⟩
  | .ins c fs, _, ⟨a, C, dx, gs, e, m, q, r⟩ => ⟨a, C, dx, gs, e, m, hL a _ q (.inr id), RepF.monoX hN hL r⟩
  | .box n, _, ⟨a, e, q⟩ => ⟨a, e, q.imp fun b _ z => hL b _ z (.inr id)⟩
  | .ty _, _, h => h
  | .cls _, _, h => h
  | .raw _, _, h => h
  | .scr _, _, ⟨a, e, q⟩ => ⟨a, e, hL.scr q⟩
theorem Reps.monoX (hN : ∀ a, N a → H a ≠ none → N' a) (hL : LeX N H H') : ∀ {ds : List D} {vs : List V}, Reps G N H ds vs → Reps G N' H' ds vs
  | [], _, h => h
  | _ :: _, _, ⟨w, ws, e, r, rs⟩ => ⟨w, ws, e, Rep.monoX hN hL r, Reps.monoX hN hL rs⟩
theorem RepK.monoX (hN : ∀ a, N a → H a ≠ none → N' a) (hL : LeX N H H') : ∀ {ds : List (Key × D)} {vs : List (Key × V)}, RepK G N H ds vs → RepK G N' H' ds vs
  | [], _, h => h
  | (_, _) :: _, _, ⟨w, ws, e, r, rs⟩ => ⟨w, ws, e, Rep.monoX hN hL r, RepK.monoX hN hL rs⟩
theorem RepF.monoX (hN : ∀ a, N a → H a ≠ none → N' a) (hL : LeX N H H') : ∀ {ds : List (Str × D)} {vs : List (Str × V)}, RepF G N H ds vs → RepF G N' H' ds vs
  | [], _, h => h
  | (_, _) :: _, _, ⟨w, ws, e, r, rs⟩ => ⟨w, ws, e, Rep.monoX hN hL r, RepF.monoX hN hL rs⟩
end
/-- a part of the heap with all that N needs -/
structure Part (N : Addr → Prop) (HP H : Hp) : Prop where
  sub : ∀ a o, HP a = some o → H a = some o
  has : LeX N H HP
theorem Part.refl {N : Addr → Prop} {H : Hp} : Part N H H := ⟨fun _ _ e => e, fun _ _ e _ => e⟩
theorem Rep.part {HP : Hp} (p : Part N HP H) {d : D} {v : V} (r : Rep G N H d v) : Rep G (fun a => N a ∧ HP a ≠ none) HP d v :=
  (r.monoX (fun _ n _ => n) p.has).mono (fun _ n y => ⟨n, y⟩) (Le.of (Same.refl HP))
theorem Reps.part {HP : Hp} (p : Part N HP H) {d : List D} {v : List V} (r : Reps G N H d v) : Reps G (fun a => N a ∧ HP a ≠ none) HP d v :=
  (r.monoX (fun _ n _ => n) p.has).mono (fun _ n y => ⟨n, y⟩) (Le.of (Same.refl HP))
theorem RepK.part {HP : Hp} (p : Part N HP H) {d : List (Key × D)} {v : List (Key × V)} (r : RepK G N H d v) : RepK G (fun a => N a ∧ HP a ≠ none) HP d v :=
  RepK.mono (fun _ n y => ⟨n, y⟩) (Le.of (Same.refl HP)) (RepK.monoX (fun _ n _ => n) p.has r)
end

/-! ### walks -/
/-- J yields what stands for ds, while a part of the heap with all that N needs stands -/
def Serves (G : Wd) (N : Addr → Prop) (J : It) (ds : List D) (HL : Hp) : Prop := ∀ HP, Part N HP HL → ∀ i H', Same HP H' →
  (∀ d, ds[i]? = some d → J.go i H' ∧ ∀ x H'', J.yld i H' x H'' → Same H' H'' ∧ Rep G (fun a => N a ∧ HP a ≠ none) H'' d x) ∧ (ds[i]? = none → J.stop i H')
def PoI (G : Wd) (N : Addr → Prop) (H : Hp) (R : It → Hp → Prop) (ds : List D) : Prop := ∀ J H1, Same H H1 → Serves G (Fr N H) J ds H1 → R J H1
def tI (G : Wd) (Wx : WX) (m : Ro → W Ex (List D)) : TI := fun σ H R => ∃ N ρ, ERel G N H σ ρ ∧ m ρ (PoI G N H R) (PoX G N Wx H σ)
/-- going over iter yields what m tells -/
structure DI (G : Wd) (X : Cx) (Wx : WX) (tg iter : Expr) (m : Ro → W Ex (List D)) : Prop where
  pi : PI X tg iter (tI G Wx m)
  mono : ∀ ρ, W.Mono (m ρ)
section
variable {G : Wd} {X : Cx} {Wx : WX} {tg : Expr}
theorem DI.imp {iter : Expr} {m : Ro → W Ex (List D)} {t : TI} (mono : ∀ ρ, W.Mono (m ρ)) (h : PI X tg iter t) (i : ∀ N ρ σ H R, ERel G N H σ ρ → m ρ (PoI G N H R) (PoX G N Wx H σ) → t σ H R) : DI G X Wx tg iter m :=
  ⟨⟨fun pins s σ H R I ⟨N, ρ, r, q⟩ => h.run pins s σ H R I (i N ρ σ H R r q)⟩, mono⟩
theorem serves_lst {K : PySem.W.Frag} {N : Addr → Prop} {H : Hp} {a : Addr} {ds : List D} {vs : List V} (n : N a) (h : H a = some (.lst vs)) (r : Reps G N H ds vs) : Serves G N (Itl K a) ds H := fun HP p i H' s => by
  have h' : SqL K H' a vs := .of (s _ _ (p.has a _ h (.inl n)))
  have r' := (r.part p).same s
  refine ⟨fun d e => ?_, fun e => ⟨vs, h', ?_⟩⟩
  · obtain ⟨v, e1, r1⟩ := r'.get' e
    refine ⟨⟨vs, v, h', e1⟩, fun x H'' y => ?_⟩
    obtain ⟨rfl, y⟩ := y
    have := y vs h'
    rw [e1] at this
    cases this
    exact ⟨Same.refl _, r1⟩
  · rw [r.length]; exact List.getElem?_eq_none_iff.mp e
theorem serves_tup {N : Addr → Prop} {H : Hp} {a : Addr} {ds : List D} {vs : List V} (h : TupAt G.K H a vs) (r : Reps G N H ds vs) : Serves G N (Itt G.K a) ds H := fun HP p i H' s => by
  have h' : SqT G.K H' a vs := ((Le.of s).tupT (p.has.tupT h)).sq
  have r' := (r.part p).same s
  refine ⟨fun d e => ?_, fun e => ⟨vs, h', ?_⟩⟩
  · obtain ⟨v, e1, r1⟩ := r'.get' e
    refine ⟨⟨vs, v, h', e1⟩, fun x H'' y => ?_⟩
    obtain ⟨rfl, y⟩ := y
    have := y vs h'
    rw [e1] at this
    cases this
    exact ⟨Same.refl _, r1⟩
  · rw [r.length]; exact List.getElem?_eq_none_iff.mp e
/-- a list or a tuple -/
def mSeqI (m : Ro → W Ex D) : Ro → W Ex (List D) := fun ρ => W.bind (m ρ) asSeq
/-- a walk over one thing or another -/
theorem pi_seq {e : Expr} {te : TE} (he : PE X e te) : PI X tg e (fun σ H R => te σ H fun x H1 => (∃ a, x = .ref a ∧ (∃ xs, SqL X.K H1 a xs) ∧ R (Itl X.K a) H1) ∨ ∃ a, x = .ref a ∧ (∃ xs, SqT X.K H1 a xs) ∧ R (Itt X.K a) H1) := by
  refine ⟨fun pins s σ H R I h => ?_⟩
  have go := he.run pins s σ H _ I h
  refine thn go fun v s1 ⟨x, H1, I1, r1, q1⟩ => ?_
  rcases q1 with ⟨a, e, ⟨xs, hq⟩, q⟩ | ⟨a, e, ⟨xs, hq⟩, q⟩
  · subst e
    cases r1
    obtain ⟨its, rv, p, hz⟩ := I1.list hq
    refine wpAny_pyIter_list p.isList ?_
    refine ⟨s1.heap.objs.size, [s1.heap.objs.size], _, _, H1, rfl, I1.kept (t' := s1.toks) fun b o e => Heap.get?_push_of_some _ e, turn_list a _, ⟨_, Heap.get?_push_size _ rfl, rfl, rfl⟩, fun b hb => ?_, q⟩
    have e : b = s1.heap.objs.size := by simpa using hb
    subst e
    exact I1.fpOk (Nat.le_refl _) (I1.hok.fresh (Nat.le_refl _))
  · subst e
    cases r1
    obtain ⟨its, rv, p, hz⟩ := I1.tuple hq
    refine wpAny_pyIter_tuple (show s1.heap.IsTuple a its.toArray from p) ?_
    refine ⟨s1.heap.objs.size, [s1.heap.objs.size], _, _, H1, rfl, I1.kept (t' := s1.toks) fun b o e => Heap.get?_push_of_some _ e, turn_tuple a _, ⟨_, Heap.get?_push_size _ rfl, rfl, rfl⟩, fun b hb => ?_, q⟩
    have e : b = s1.heap.objs.size := by simpa using hb
    subst e
    exact I1.fpOk (Nat.le_refl _) (I1.hok.fresh (Nat.le_refl _))
theorem di_seq {e : Expr} {m : Ro → W Ex D} (Z : X.K = G.K) (he : DE G X Wx e m) : DI G X Wx tg e (mSeqI m) := by
  refine DI.imp (fun ρ => (he.mono ρ).bind fun d => asSeq_mono d) (pi_seq he.pe) fun N ρ σ H R r q => ?_
  refine he.go r q (fun x z => z) fun d v H1 z s1 r1 _ => ?_
  cases d with
  | lst ds =>
    obtain ⟨a, vs, ev, n, h, rs⟩ := r1
    exact .inl ⟨a, ev, ⟨vs, .of h⟩, z _ H1 s1 (serves_lst n h rs)⟩
  | tup ds =>
    obtain ⟨a, vs, ev, h, rs⟩ := r1
    exact .inr ⟨a, ev, ⟨vs, Z ▸ h.sq⟩, z _ H1 s1 (Z ▸ serves_tup h rs)⟩
  | _ => exact z.elim
/-- range -/
def rngD (lo : Int) (n : Nat) : List D := (List.range n).map fun (k : Nat) => D.int (lo + k)
theorem serves_rng {N : Addr → Prop} {H : Hp} {lo : Int} {n : Nat} : Serves G N (Itr lo n) (rngD lo n) H := fun HP p i H' s => by
  unfold rngD
  rw [List.getElem?_map]
  by_cases h : i < n
  · rw [List.getElem?_range h]
    refine ⟨fun d e => ?_, fun e => nomatch e⟩
    cases e
    refine ⟨h, fun x H'' y => ?_⟩
    obtain ⟨y1, y2⟩ := (show H'' = H' ∧ x = .int (lo + i) from y)
    subst y1 y2
    exact ⟨Same.refl _, rfl⟩
  · have : (List.range n)[i]? = none := by rw [List.getElem?_eq_none_iff]; simpa using h
    rw [this]
    exact ⟨fun d e => (nomatch e), fun _ => Nat.le_of_not_lt h⟩
def rng1D : List D → W Ex (List D)
  | [.int j] => if -(2 ^ 62) ≤ j ∧ j < 2 ^ 62 then W.ret (rngD 0 j.toNat) else W.fail
  | _ => W.fail
def rng2D : List D → W Ex (List D)
  | [.int i, .int j] => if -(2 ^ 62) ≤ i ∧ i < 2 ^ 62 ∧ -(2 ^ 62) ≤ j ∧ j < 2 ^ 62 then W.ret (rngD i (j - i).toNat) else W.fail
  | _ => W.fail
theorem rng1D_mono (ds : List D) : W.Mono (rng1D ds) := by
  unfold rng1D
  split
  · exact ite_mono W.Mono.ret W.Mono.fail
  · exact W.Mono.fail
theorem rng2D_mono (ds : List D) : W.Mono (rng2D ds) := by
  unfold rng2D
  split
  · exact ite_mono W.Mono.ret W.Mono.fail
  · exact W.Mono.fail
def mRng1 (m : Ro → W Ex (List D)) : Ro → W Ex (List D) := fun ρ => W.bind (m ρ) rng1D
def mRng2 (m : Ro → W Ex (List D)) : Ro → W Ex (List D) := fun ρ => W.bind (m ρ) rng2D
theorem rng1_inv {ds : List D} {Q : List D → Prop} {E : Ex → Prop} (h : rng1D ds Q E) : ∃ j, ds = [.int j] ∧ (-(2 ^ 62) ≤ j ∧ j < 2 ^ 62) ∧ Q (rngD 0 j.toNat) := by
  unfold rng1D at h
  split at h
  · obtain ⟨h1, h2⟩ := ite_ret h
    exact ⟨_, rfl, h1, h2⟩
  · exact h.elim
theorem rng2_inv {ds : List D} {Q : List D → Prop} {E : Ex → Prop} (h : rng2D ds Q E) : ∃ i j, ds = [.int i, .int j] ∧ (-(2 ^ 62) ≤ i ∧ i < 2 ^ 62 ∧ -(2 ^ 62) ≤ j ∧ j < 2 ^ 62) ∧ Q (rngD i (j - i).toNat) := by
  unfold rng2D at h
  split at h
  · obtain ⟨h1, h2⟩ := ite_ret h
    exact ⟨_, _, rfl, h1, h2⟩
  · exact h.elim
theorem di_rng1 {a : Expr} {m : Ro → W Ex (List D)} {p pos : Pos} (Z : X.mg = G.mg) (hg : Gl X "range") (hm : G.mg "range" = none) (ha : DA G X Wx [a] m) (hs : starEach [a] X.env = [(false, eval a X.env)] := by rfl) : DI G X Wx tg (.Call (.Name "range" p) [a] [] pos) (mRng1 m) := by
  refine DI.imp (fun ρ => (ha.mono ρ).bind fun d => rng1D_mono d) (pi_range1 hg (Z ▸ hm) ha.pa hs) fun N ρ σ H R r q => ?_
  refine ha.go r q (fun x z => z) fun ds vs H1 z s1 r1 _ => ?_
  obtain ⟨j, rfl, h1, z⟩ := rng1_inv z
  obtain ⟨v, rfl, rv⟩ := r1.one_inv
  exact ⟨j, by rw [show v = .int j from rv], h1.1, h1.2, z _ H1 s1 serves_rng⟩
theorem di_rng2 {a b : Expr} {m : Ro → W Ex (List D)} {p pos : Pos} (Z : X.mg = G.mg) (hg : Gl X "range") (hm : G.mg "range" = none) (ha : DA G X Wx [a, b] m) (hs : starEach [a, b] X.env = [(false, eval a X.env), (false, eval b X.env)] := by rfl) (hs2 : starEach [b] X.env = [(false, eval b X.env)] := by rfl) : DI G X Wx tg (.Call (.Name "range" p) [a, b] [] pos) (mRng2 m) := by
  refine DI.imp (fun ρ => (ha.mono ρ).bind fun d => rng2D_mono d) (pi_range2 hg (Z ▸ hm) ha.pa hs hs2) fun N ρ σ H R r q => ?_
  refine ha.go r q (fun x z => z) fun ds vs H1 z s1 r1 _ => ?_
  obtain ⟨i, j, rfl, h1, z⟩ := rng2_inv z
  obtain ⟨v, w, rfl, rv, rw'⟩ := r1.two_inv
  exact ⟨i, j, by rw [show v = .int i from rv, show w = .int j from rw'], h1, z _ H1 s1 serves_rng⟩

/-! ### targets -/
def RepB (G : Wd) (N : Addr → Prop) (H : Hp) (bs : List (Nat × D)) (ws : List (Nat × V)) : Prop := Paired (fun b w => b.1 = w.1 ∧ Rep G N H b.2 w.2) bs ws
def setV (σ : Fb.St) : List (Nat × V) → Fb.St
  | [] => σ
  | (i, v) :: r => setV (σ.set i (some v)) r
def setR (ρ : Ro) : List (Nat × D) → Ro
  | [] => ρ
  | (i, d) :: r => setR (ρ.set i (some d)) r
def setE (ρ : En) : List (Nat × D) → En
  | [] => ρ
  | (i, d) :: r => setE (ρ.set i (some (false, d))) r
theorem setV_app (σ : Fb.St) (a b : List (Nat × V)) : setV σ (a ++ b) = setV (setV σ a) b := by
  induction a generalizing σ with
  | nil => rfl
  | cons p r ih => exact ih _
/-- the target stores p of what comes, at slots among sl -/
structure DG (G : Wd) (X : Cx) (tg : Expr) (g : TG) (p : D → Option (List (Nat × D))) (sl : List Nat) : Prop where
  pg : PG X tg g
  st : ∀ N H d v bs σ Q, Rep G N H d v → p d = some bs → (∀ ws, RepB G N H bs ws → Q (setV σ ws) H) → g v σ H Q
  sl : ∀ d bs, p d = some bs → ∀ b ∈ bs, b.1 ∈ sl
structure DGs (G : Wd) (X : Cx) (tg : List Expr) (g : TGs) (p : List D → Option (List (Nat × D))) (sl : List Nat) : Prop where
  pg : PGs X tg g
  st : ∀ N H ds vs bs σ Q, Reps G N H ds vs → p ds = some bs → (∀ ws, RepB G N H bs ws → Q (setV σ ws) H) → g vs σ H Q
  sl : ∀ d bs, p d = some bs → ∀ b ∈ bs, b.1 ∈ sl
def pName (i : Nat) (d : D) : Option (List (Nat × D)) := some [(i, d)]
def pNil : List D → Option (List (Nat × D))
  | [] => some []
  | _ => none
def pCons (p : D → Option (List (Nat × D))) (q : List D → Option (List (Nat × D))) : List D → Option (List (Nat × D))
  | d :: ds => match p d, q ds with
    | some a, some b => some (a ++ b)
    | _, _ => none
  | [] => none
def pTup (n : Nat) (q : List D → Option (List (Nat × D))) : D → Option (List (Nat × D))
  | .tup ds => if ds.length = n then q ds else none
  | _ => none
theorem dg_name {i : Nat} {x : Str} {pos : Pos} (hN : X.N.Nodup) (hi : X.N[i]? = some x) (hx : Loc X.env.scope x) (hf : X.fn x = true ∨ X.env.scope.names.lookup x = some .local := by first | exact .inl rfl | exact .inr rfl | assumption) : DG G X (.Name x pos) (gName i) (pName i) [i] :=
  ⟨pg_name hN hi hx hf, fun N H d v bs σ Q r e h => by
    cases e
    exact h [(i, v)] (.cons ⟨rfl, r⟩ .nil), fun d bs e b hb => by
    cases e
    simp at hb
    simp [hb]⟩
theorem dgs_nil : DGs G X [] gNil pNil [] := by
  refine ⟨pgs_nil, fun N H ds vs bs σ Q r e h => ?_, fun d bs e b hb => ?_⟩
  · cases ds with
    | nil => cases e; exact ⟨r, h [] .nil⟩
    | cons _ _ => cases e
  · cases d with
    | nil => cases e; cases hb
    | cons _ _ => cases e
theorem paired_append {α β : Type} {P : α → β → Prop} : ∀ {a c : List α} {b d : List β}, Paired P a b → Paired P c d → Paired P (a ++ c) (b ++ d)
  | _, _, _, _, .nil, h => h
  | _, _, _, _, .cons h t, h' => .cons h (paired_append t h')
theorem dgs_cons {e : Expr} {es : List Expr} {g : TG} {gs : TGs} {p : D → Option (List (Nat × D))} {q : List D → Option (List (Nat × D))} {a b : List Nat} (h1 : DG G X e g p a) (h2 : DGs G X es gs q b)
    (hs : (assignEach (e :: es) X.env).map (·.2) = assign e X.env :: (assignEach es X.env).map (·.2) := by rfl) : DGs G X (e :: es) (gCons g gs) (pCons p q) (a ++ b) := by
  refine ⟨pgs_cons h1.pg h2.pg hs, fun N H ds vs bs σ Q r e h => ?_, fun ds bs e c hc => ?_⟩
  · cases ds with
    | nil => cases e
    | cons d ds =>
      obtain ⟨w, ws, rfl, r1, r2⟩ := r
      have e : (match p d, q ds with | some a, some b => some (a ++ b) | _, _ => none) = some bs := e
      rcases e1 : p d with _ | b1
      · rw [e1] at e; cases e
      · rcases e2 : q ds with _ | b2
        · rw [e1, e2] at e; cases e
        · rw [e1, e2] at e
          cases e
          refine ⟨w, ws, rfl, h1.st N H d w b1 σ _ r1 e1 fun ws1 h1' => ?_⟩
          refine h2.st N H ds ws b2 _ _ r2 e2 fun ws2 h2' => ?_
          rw [← setV_app]
          exact h _ (paired_append h1' h2')
  · cases ds with
    | nil => cases e
    | cons d ds =>
      have e : (match p d, q ds with | some a, some b => some (a ++ b) | _, _ => none) = some bs := e
      rcases e1 : p d with _ | b1
      · rw [e1] at e; cases e
      · rcases e2 : q ds with _ | b2
        · rw [e1, e2] at e; cases e
        · rw [e1, e2] at e
          cases e
          rcases List.mem_append.mp hc with hc | hc
          · exact List.mem_append_left _ (h1.sl _ _ e1 _ hc)
          · exact List.mem_append_right _ (h2.sl _ _ e2 _ hc)
theorem dg_tup {es : List Expr} {k n : Nat} {gs : TGs} {q : List D → Option (List (Nat × D))} {a : List Nat} {pos : Pos} (Z : X.K = G.K) (hc : X.calm = true) (h : DGs G X es gs q a) (hn : (assignEach es X.env).length = n := by rfl) (hst : (assignEach es X.env).findIdx? (·.1) = none := by rfl) :
    DG G X (.Tuple es k pos) (gTup G.K n gs) (pTup n q) a := by
  rw [← Z]
  refine ⟨pg_tup hc h.pg hn hst, fun N H d v bs σ Q r e hQ => ?_, fun d bs e b hb => ?_⟩
  · cases d <;> first | (cases e; done) | skip
    rename_i ds
    have e : (if ds.length = n then q ds else none) = some bs := e
    by_cases hl : ds.length = n
    · rw [if_pos hl] at e
      obtain ⟨t, vs, ev, ht, rs⟩ := r
      exact ⟨t, vs, ev, Z ▸ ht.sq, rs.length.trans hl, h.st N H ds vs bs σ Q rs e hQ⟩
    · rw [if_neg hl] at e; cases e
  · cases d <;> first | (cases e; done) | skip
    rename_i ds
    have e : (if ds.length = n then q ds else none) = some bs := e
    by_cases hl : ds.length = n
    · rw [if_pos hl] at e; exact h.sl _ _ e _ hb
    · rw [if_neg hl] at e; cases e

/-! ### for -/
theorem setE_len : ∀ {bs : List (Nat × D)} {ρ : En}, (setE ρ bs).length = ρ.length
  | [], _ => rfl
  | (i, d) :: r, ρ => (setE_len (bs := r)).trans (List.length_set ..)
theorem setV_len : ∀ {bs : List (Nat × V)} {ρ : Fb.St}, (setV ρ bs).length = ρ.length
  | [], _ => rfl
  | (i, d) :: r, ρ => (setV_len (bs := r)).trans (List.length_set ..)
theorem RepB.mono' {N N' : Addr → Prop} {H : Hp} (hN : ∀ a, N a → H a ≠ none → N' a) : ∀ {bs : List (Nat × D)} {ws : List (Nat × V)}, RepB G N H bs ws → RepB G N' H bs ws
  | _, _, .nil => .nil
  | _, _, .cons h t => .cons ⟨h.1, h.2.mono hN (Le.of (Same.refl H))⟩ (RepB.mono' hN t)
/-- the items of a walk are stored -/
theorem SRel.setE {H0 H : Hp} {N0 N : Addr → Prop} (hN : ∀ a, N a → N0 a ∧ H0 a ≠ none) : ∀ {bs : List (Nat × D)} {ws : List (Nat × V)} {σ : Fb.St} {ρ : En}, SRel G H0 N0 σ H ρ → RepB G N H bs ws → SRel G H0 N0 (setV σ ws) H (setE ρ bs)
  | _, _, _, _, x, .nil => x
  | _, _, σ, ρ, x, .cons (a := b) (b := w) h t => by
    obtain ⟨i, d⟩ := b
    obtain ⟨j, v⟩ := w
    obtain ⟨e, r⟩ := h
    obtain rfl : i = j := e
    refine SRel.setE hN (bs := _) (ws := _) (σ := σ.set i (some v)) (ρ := ρ.set i (some (false, d))) ?_ t
    obtain ⟨S, o⟩ := x.own
    refine ⟨x.same, by rw [List.length_set, List.length_set]; exact x.len, _, o.setS x.len (r.mono (fun a n _ => ⟨.inl (hN a n).1, fun j z => (hN a n).2 (o.new j a z).1⟩) (Le.of (Same.refl H)))⟩
def forN (p : D → Option (List (Nat × D))) (b : En → WS) : List D → En → WS
  | [], ρ => W.ret (.nx, ρ)
  | d :: ds, ρ => match p d with
    | none => W.fail
    | some bs => W.bind (b (setE ρ bs)) fun q => match q with
      | (.nx, ρ') => forN p b ds ρ'
      | (.ct, ρ') => forN p b ds ρ'
      | (.bk, ρ') => W.ret (.nx, ρ')
      | (.rt r, ρ') => W.ret (.rt r, ρ')
def mFor (fz : List Nat) (m : Ro → W Ex (List D)) (p : D → Option (List (Nat × D))) (b : En → WS) : En → WS := fun ρ => W.bind (up ρ (m (see fz ρ))) fun ds => forN p b ds (frz fz ρ)
theorem forN_mono {p : D → Option (List (Nat × D))} {b : En → WS} (hb : ∀ ρ, W.Mono (b ρ)) : ∀ ds ρ, W.Mono (forN p b ds ρ)
  | [], _ => W.Mono.ret
  | d :: ds, ρ => by
    unfold forN
    split
    · exact W.Mono.fail
    · refine (hb _).bind fun q => ?_
      obtain ⟨f, ρ'⟩ := q
      cases f with
      | nx => exact forN_mono hb ds ρ'
      | ct => exact forN_mono hb ds ρ'
      | bk => exact W.Mono.ret
      | rt r => exact W.Mono.ret
/-- the heap without what is held alone -/
noncomputable def hpart (S : Nat → Option Addr) (H : Hp) : Hp := fun a => open Classical in if ∃ j, S j = some a then none else H a
theorem hpart_in {S : Nat → Option Addr} {H : Hp} {a : Addr} (h : ∀ j, S j ≠ some a) : hpart S H a = H a := by
  unfold hpart
  rw [if_neg]
  rintro ⟨j, e⟩
  exact h j e
theorem hpart_out {S : Nat → Option Addr} {H : Hp} {a : Addr} {j : Nat} (h : S j = some a) : hpart S H a = none := by
  unfold hpart
  rw [if_pos ⟨j, h⟩]
theorem hpart_some {S : Nat → Option Addr} {H : Hp} {a : Addr} {o : HO} (h : hpart S H a = some o) : H a = some o ∧ ∀ j, S j ≠ some a := by
  by_cases c : ∃ j, S j = some a
  · obtain ⟨j, e⟩ := c
    rw [hpart_out e] at h; cases h
  · have c' : ∀ j, S j ≠ some a := fun j e => c ⟨j, e⟩
    exact ⟨by rw [hpart_in c'] at h; exact h, c'⟩
section
variable {H0 H : Hp} {N0 : Addr → Prop} {S : Nat → Option Addr} {σ : Fb.St} {ρ : En}
/-- all but what is held alone stands still from now on -/
theorem SRel.still (h0 : Same H0 H) (hl : ρ.length = σ.length) (o : OwnOk G H0 N0 S σ H ρ) : SRel G (hpart S H) (Fr N0 H0) σ H ρ := by
  have sub : ∀ a, Out N0 H0 S a → Out (Fr N0 H0) (hpart S H) S a := fun a h => ⟨.inl h.1, h.2⟩
  exact ⟨fun a u e => (hpart_some e).1, hl, S, fun i a e => ⟨hpart_out e, (o.new i a e).2⟩, o.kind, o.inj, fun i d e => let ⟨v, e1, r⟩ := o.shr i d e; ⟨v, e1, r.sub sub⟩, fun i d e => let ⟨a, e1, e2, r⟩ := o.own i d e; ⟨a, e1, e2, r.mono (fun b z _ => sub b z) (Same.refl H)⟩⟩
theorem hpart_h0 (h0 : Same H0 H) (o : OwnOk G H0 N0 S σ H ρ) : Same H0 (hpart S H) := fun a u e => by
  rw [hpart_in fun j z => by rw [(o.new j a z).1] at e; cases e]
  exact h0 a u e
theorem Fr.back {HP : Hp} (s : Same H0 HP) {a : Addr} (h : Fr (Fr N0 H0) HP a) : Fr N0 H0 a := h.elim id fun z => .inr (s.free z)
theorem SRel.back {HP H' : Hp} {σ' : Fb.St} {ρ' : En} (s : Same H0 HP) (x : SRel G HP (Fr N0 H0) σ' H' ρ') : SRel G H0 N0 σ' H' ρ' := by
  obtain ⟨S', o⟩ := x.own
  have sub : ∀ a, Out (Fr N0 H0) HP S' a → Out N0 H0 S' a := fun a h => ⟨h.1.back s, h.2⟩
  exact ⟨s.trans x.same, x.len, S', fun i a e => ⟨s.free (o.new i a e).1, (o.new i a e).2⟩, o.kind, o.inj, fun i d e => let ⟨v, e1, r⟩ := o.shr i d e; ⟨v, e1, r.sub sub⟩, fun i d e => let ⟨a, e1, e2, r⟩ := o.own i d e; ⟨a, e1, e2, r.mono (fun b z _ => sub b z) (Same.refl H')⟩⟩
theorem PoS.back {HP : Hp} {D' : Ends} (s : Same H0 HP) : ∀ {p : Fl × En}, PoS G H0 N0 D' p → PoS G HP (Fr N0 H0) D' p
  | (.nx, _), h => fun σ H x => h σ H (x.back s)
  | (.bk, _), h => fun σ H x => h σ H (x.back s)
  | (.ct, _), h => fun σ H x => h σ H (x.back s)
  | (.rt r, _), h => fun v H s' r' f => h v H (s.trans s') (r'.sub fun _ z => z.back s) fun w => by
    obtain ⟨a, e1, e2, e3⟩ := f w
    exact ⟨a, e1, s.free e2, e3.mono (fun b z _ => ⟨z.1.back s, z.2⟩) (Same.refl H)⟩
theorem PoXS.back {HP : Hp} {p : Ex × En} (s : Same H0 HP) (h : PoXS G H0 N0 Wx p) : PoXS G HP (Fr N0 H0) Wx p := fun σ c dd H x r => h σ c dd H (x.back s) (r.mono fun _ z => z.back s)
end
theorem ds_for {iter : Expr} {body : List Stmt} {m : Ro → W Ex (List D)} {b : En → WS} {g : TG} {p : D → Option (List (Nat × D))} {sl : List Nat} {pos : Pos} (fz : List Nat) (hp : PassesOwn (model X.prog X.w) X.A X.env X.xe) (hc : X.calm = true) (hi : DI G X Wx tg iter m) (hg : DG G X tg g p sl) (hb : DSs G X Wx body b)
    (hs : ∀ x, foldedSetIterable iter X.env x = pure x := by intro _; rfl) : DS G X Wx (.For tg iter body [] pos) (mFor fz m p b) := by
  refine DS.imp (fun ρ => (Mono.up (hi.mono _)).bind fun ds => forN_mono hb.mono ds _) (ps_for hp hc hi.pi hg.pg hb.ps hs) fun H0 N0 ρ σ H D' r q => ?_
  obtain ⟨S, o⟩ := r.own
  refine ⟨_, _, o.sees fz, (hi.mono _).run (fun ds z J H1 s1 sv => ?_) (fun x z => ?_) q⟩
  · have o1 : OwnOk G H0 N0 (cut fz S) σ H1 (frz fz ρ) := (o.frz fz).same s1
    have h01 := r.same.trans s1
    have x1 := SRel.still h01 (frz_len.trans r.len) o1
    have hp0 := hpart_h0 h01 o1
    have pt : Part (Fr (Out N0 H0 (cut fz S)) H) (hpart (cut fz S) H1) H1 := ⟨fun a u e => (hpart_some e).1, fun a u e c => by
      by_cases k : ∃ j, cut fz S j = some a
      · obtain ⟨j, k⟩ := k
        obtain ⟨u', e', k'⟩ := o1.kind j a k
        rw [e] at e'
        cases e'
        rcases c with c | c
        · rcases c with c | c
          · exact absurd k (c.2 j)
          · exact absurd c (o.new j a (cut_some k).1).2
        · exact absurd k' c
      · rw [hpart_in fun j k' => k ⟨j, k'⟩]; exact e⟩
    generalize hpart (cut fz S) H1 = HP at x1 hp0 pt
    have z' : forN p b ds (frz fz ρ) (PoS G HP (Fr N0 H0) D') (PoXS G HP (Fr N0 H0) Wx) := (forN_mono hb.mono ds _).run (fun _ y => PoS.back hp0 y) (fun _ y => PoXS.back hp0 y) z
    refine ⟨fun i k σ H => k = ds.length - i ∧ i ≤ ds.length ∧ ∃ ρ, SRel G HP (Fr N0 H0) σ H ρ ∧ forN p b (ds.drop i) ρ (PoS G HP (Fr N0 H0) D') (PoXS G HP (Fr N0 H0) Wx), ⟨_, rfl, Nat.zero_le _, _, x1, z'⟩, ?_⟩
    rintro i k σ2 H2 ⟨rfl, hi', ρ2, x2, z2⟩
    obtain ⟨sv1, sv2⟩ := sv HP pt i H2 x2.same
    by_cases hlt : i < ds.length
    · obtain ⟨d, hd⟩ : ∃ d, ds[i]? = some d := ⟨ds[i], by simp [hlt]⟩
      have hdrop : ds.drop i = d :: ds.drop (i + 1) := by
        rw [List.drop_eq_getElem_cons hlt]
        rw [List.getElem?_eq_getElem hlt] at hd
        cases hd
        rfl
      rw [hdrop] at z2
      obtain ⟨go, yl⟩ := sv1 d hd
      refine .inr ⟨go, fun σ' H' => ∃ ρ, SRel G HP (Fr N0 H0) σ' H' ρ ∧ forN p b (ds.drop (i + 1)) ρ (PoS G HP (Fr N0 H0) D') (PoXS G HP (Fr N0 H0) Wx), fun σ' H' w => ⟨ds.length - (i + 1), by omega, rfl, hlt, w⟩, fun x H' y => ?_⟩
      obtain ⟨s3, r3⟩ := yl x H' y
      unfold forN at z2
      rcases ep : p d with _ | bs
      · rw [ep] at z2; exact z2.elim
      · rw [ep] at z2
        refine hg.st _ H' d x bs σ2 _ r3 ep fun ws rb => ?_
        have x3 := SRel.setE (N := fun a => Fr (Out N0 H0 (cut fz S)) H a ∧ HP a ≠ none) (fun a h => ⟨h.1.out r.same, h.2⟩) (x2.step s3) rb
        refine ⟨HP, Fr N0 H0, setE ρ2 bs, x3, (hb.mono _).run (fun q y => ?_) (fun _ y => y) z2⟩
        obtain ⟨f, ρ'⟩ := q
        cases f with
        | nx => exact fun σ' H' r' => ⟨ρ', r', y⟩
        | ct => exact fun σ' H' r' => ⟨ρ', r', y⟩
        | bk => exact fun σ' H' r' => y σ' H' r'
        | rt r => exact y
    · have e : i = ds.length := by omega
      subst e
      have hn : ds[ds.length]? = none := by simp
      rw [List.drop_length] at z2
      exact .inl ⟨sv2 hn, z2 σ2 H2 x2⟩
  · intro c dd H' s1 r1
    exact z σ c dd H' (r.step s1) (r1.mono fun _ y => y.out r.same)
end
end Fb
end

section
set_option Elab.async false
set_option linter.all false
set_option maxRecDepth 100000
set_option maxHeartbeats 4000000
/-! List blocks and dict blocks. -/
namespace Fb
open PySem PySem.Spec PyProof.Rows L2

def wipeR (ρ : Ro) : List Nat → Ro
  | [] => ρ
  | v :: vs => (wipeR ρ vs).set v none
theorem wipe_get {σ : Fb.St} {j : Nat} : ∀ {vs : List Nat}, (wipe σ vs)[j]? = if j ∈ vs then (if j < σ.length then some none else none) else σ[j]?
  | [] => by simp [wipe]
  | v :: vs => by
    unfold wipe
    by_cases h : v = j
    · subst h
      rw [List.getElem?_set_self']
      by_cases hl : v < σ.length
      · have : v < (wipe σ vs).length := by rw [wipe_length]; exact hl
        rw [List.getElem?_eq_getElem this]
        simp [hl]
      · have : (wipe σ vs)[v]? = none := by rw [List.getElem?_eq_none_iff, wipe_length]; omega
        rw [this]
        simp [hl]
    · rw [List.getElem?_set_ne h, wipe_get]
      simp [Ne.symm h]
theorem wipeR_some {ρ : Ro} {j : Nat} {d : D} : ∀ {vs : List Nat}, (wipeR ρ vs)[j]? = some (some d) → ρ[j]? = some (some d) ∧ j ∉ vs
  | [], h => ⟨h, by simp⟩
  | v :: vs, h => by
    unfold wipeR at h
    by_cases hv : v = j
    · subst hv
      rw [List.getElem?_set_self'] at h
      rcases e : (wipeR ρ vs)[v]? with _ | o <;> rw [e] at h <;> cases h
    · rw [List.getElem?_set_ne hv] at h
      obtain ⟨h1, h2⟩ := wipeR_some h
      exact ⟨h1, by simp [Ne.symm hv, h2]⟩
theorem setV_get {σ : Fb.St} {j : Nat} : ∀ {ws : List (Nat × V)}, (∀ w ∈ ws, w.1 ≠ j) → (setV σ ws)[j]? = σ[j]?
  | [], _ => rfl
  | (i, v) :: r, h => by
    unfold setV
    rw [setV_get (fun w hw => h w (List.mem_cons_of_mem _ hw)), List.getElem?_set_ne (h (i, v) List.mem_cons_self)]
theorem wipe_setV {σ : Fb.St} {vs : List Nat} {ws : List (Nat × V)} (h : ∀ w ∈ ws, w.1 ∈ vs) : wipe (setV (wipe σ vs) ws) vs = wipe σ vs := by
  apply List.ext_getElem?
  intro j
  rw [wipe_get, wipe_get]
  by_cases hj : j ∈ vs
  · rw [if_pos hj, if_pos hj, setV_len, wipe_length]
  · rw [if_neg hj, if_neg hj, setV_get (fun w hw e => hj (by rw [← e]; exact h w hw)), wipe_get, if_neg hj]
theorem RepB.slots {G : Wd} {N : Addr → Prop} {H : Hp} {sl : List Nat} : ∀ {bs : List (Nat × D)} {ws : List (Nat × V)}, RepB G N H bs ws → (∀ b ∈ bs, b.1 ∈ sl) → ∀ w ∈ ws, w.1 ∈ sl := by
  intro bs ws h
  induction h with
  | nil => intro _ w hw; cases hw
  | cons h t ih =>
    intro hb w' hw
    rcases List.mem_cons.mp hw with e | hw
    · subst e; rw [← h.1]; exact hb _ List.mem_cons_self
    · exact ih (fun b' h' => hb b' (List.mem_cons_of_mem _ h')) w' hw
section
variable {G : Wd} {N N' : Addr → Prop} {H H' : Hp}
theorem ERel.wipe {σ : Fb.St} {ρ : Ro} (r : ERel G N H σ ρ) (vs : List Nat) : ERel G N H (L2.wipe σ vs) (wipeR ρ vs) := fun i d e => by
  obtain ⟨e, h⟩ := wipeR_some e
  obtain ⟨v, e1, r1⟩ := r i d e
  exact ⟨v, by rw [wipe_get, if_neg h]; exact e1, r1⟩
theorem ERel.setR {bs : List (Nat × D)} {ws : List (Nat × V)} {σ : Fb.St} {ρ : Ro} (hl : ∀ b ∈ bs, b.1 < σ.length) (x : ERel G N H σ ρ) (h : RepB G N H bs ws) : ERel G N H (setV σ ws) (Fb.setR ρ bs) := by
  induction h generalizing σ ρ with
  | nil => exact x
  | @cons b w _ _ h t ih =>
    obtain ⟨i, d⟩ := b
    obtain ⟨j, v⟩ := w
    obtain ⟨e, r⟩ := h
    obtain rfl : i = j := e
    refine ih (σ := σ.set i (some v)) (ρ := ρ.set i (some d)) (fun b hb => by rw [List.length_set]; exact hl b (List.mem_cons_of_mem _ hb)) (fun k d' e => ?_)
    by_cases hk : i = k
    · subst hk
      have hi : i < σ.length := hl (i, d) List.mem_cons_self
      rw [List.getElem?_set_self'] at e
      rcases e2 : ρ[i]? with _ | o
      · rw [e2] at e; cases e
      · rw [e2] at e
        cases e
        exact ⟨v, by rw [List.getElem?_set_self hi], r⟩
    · rw [List.getElem?_set_ne hk] at e
      obtain ⟨v', e1, r1⟩ := x k d' e
      exact ⟨v', by rw [List.getElem?_set_ne hk]; exact e1, r1⟩
theorem ERel.mono {σ : Fb.St} {ρ : Ro} (hN : ∀ a, N a → H a ≠ none → N' a) (s : Same H H') (r : ERel G N H σ ρ) : ERel G N' H' σ ρ := fun i d e =>
  let ⟨v, e1, r1⟩ := r i d e
  ⟨v, e1, r1.mono hN (Le.of s)⟩
theorem RepB.imp {bs : List (Nat × D)} {ws : List (Nat × V)} (f : ∀ d v, Rep G N H d v → Rep G N' H' d v) (h : RepB G N H bs ws) : RepB G N' H' bs ws := by
  induction h with
  | nil => exact .nil
  | cons h t ih => exact .cons ⟨h.1, f _ _ h.2⟩ ih
end

abbrev WxF : WX := fun _ _ _ _ => False
section
variable {G : Wd} {X : Cx} {Wx : WX}
/-- a block's tests -/
structure DTs (G : Wd) (X : Cx) (Wx : WX) (es : List Expr) (m : Ro → W Ex Bool) : Prop where
  pt : PTs X es (tT G Wx m)
  mono : ∀ ρ, W.Mono (m ρ)
def mYes : Ro → W Ex Bool := fun _ => W.ret true
theorem dts_nil : DTs G X Wx [] mYes := ⟨⟨fun pins s σ H Q I ⟨N, ρ, r, q⟩ => pts_nil.run pins s σ H Q I (q H (Same.refl H))⟩, fun _ => W.Mono.ret⟩
theorem dts_one {c : Expr} {m : Ro → W Ex Bool} (h : DT G X Wx c m) : DTs G X Wx [c] m := ⟨pts_one h.pt, h.mono⟩

def lcN (p : D → Option (List (Nat × D))) (c : Ro → W Ex Bool) (e : Ro → W Ex D) (ρ : Ro) : List D → W Ex (List D)
  | [] => W.ret []
  | d :: ds => match p d with
    | none => W.fail
    | some bs => W.bind (W.calm (c (setR ρ bs))) fun b => if b = true then W.bind (W.calm (e (setR ρ bs))) fun y => W.bind (lcN p c e ρ ds) fun ys => W.ret (y :: ys) else lcN p c e ρ ds
def mLc (m : Ro → W Ex (List D)) (vs : List Nat) (p : D → Option (List (Nat × D))) (c : Ro → W Ex Bool) (e : Ro → W Ex D) : Ro → W Ex (Bool × D) := fun ρ =>
  W.bind (m ρ) fun ds => szd ds (W.bind (lcN p c e (wipeR ρ vs) ds) fun ys => W.ret (true, .lst ys))
theorem lcN_mono {p : D → Option (List (Nat × D))} {c : Ro → W Ex Bool} {e : Ro → W Ex D} (hc : ∀ ρ, W.Mono (c ρ)) (he : ∀ ρ, W.Mono (e ρ)) (ρ : Ro) : ∀ ds, W.Mono (lcN p c e ρ ds)
  | [] => W.Mono.ret
  | d :: ds => by
    unfold lcN
    split
    · exact W.Mono.fail
    · exact (hc _).calm.bind fun b => ite_mono ((he _).calm.bind fun y => (lcN_mono hc he ρ ds).bind fun ys => W.Mono.ret) (lcN_mono hc he ρ ds)
theorem mLc_mono {m : Ro → W Ex (List D)} {vs : List Nat} {p : D → Option (List (Nat × D))} {c : Ro → W Ex Bool} {e : Ro → W Ex D} (hm : ∀ ρ, W.Mono (m ρ)) (hc : ∀ ρ, W.Mono (c ρ)) (he : ∀ ρ, W.Mono (e ρ)) (ρ : Ro) : W.Mono (mLc m vs p c e ρ) :=
  (hm ρ).bind fun ds => szd_mono ((lcN_mono hc he _ ds).bind fun _ => W.Mono.ret)
theorem drop_cons {α : Type} {l : List α} {i : Nat} {d : α} (hd : l[i]? = some d) : l.drop i = d :: l.drop (i + 1) := by
  have hlt := (List.getElem?_eq_some_iff.mp hd).1
  rw [List.drop_eq_getElem_cons hlt]
  rw [List.getElem?_eq_getElem hlt] at hd
  cases hd
  rfl
/-- the new list grows: what lies apart from it stays -/
theorem LeX.upd {N : Addr → Prop} {H : Hp} {a : Addr} {u v : HO} (h : H a = some u) (k : isM u) (n : ¬ N a) : LeX N H (L2.upd H a v) := fun b o e c => by
  by_cases hb : b = a
  · subst hb
    rw [h] at e
    cases e
    rcases c with c | c
    · exact absurd c n
    · exact absurd k c
  · rw [upd_ne hb]; exact e
theorem Same.updN {H H' : Hp} {a : Addr} {v : HO} (s : Same H H') (h : H a = none) : Same H (L2.upd H' a v) := fun b o e => by
  rw [upd_ne (ne_of_none e h)]; exact s b o e
theorem lc_tLc {m : Ro → W Ex (List D)} {g : TG} {p : D → Option (List (Nat × D))} {sl vs : List Nat} {c : Ro → W Ex Bool} {e : Ro → W Ex D} {tg : Expr} {σ : Fb.St} {H : Hp} {Q : VK} {X' : Cx}
    (hm : ∀ ρ, W.Mono (m ρ)) (hcm : ∀ ρ, W.Mono (c ρ)) (hem : ∀ ρ, W.Mono (e ρ)) (hg : DG G X' tg g p sl) (hsl : ∀ i ∈ sl, i ∈ vs ∧ i < σ.length) (h : tR G Wx (mLc m vs p c e) σ H Q) : tLc (tI G Wx m) g (tT G WxF c) (tE G WxF e) vs σ H Q := by
  obtain ⟨N, ρ, rr, q⟩ := h
  refine ⟨N, ρ, rr, (hm ρ).run (fun ds z J H1 s1 sv D hD => ?_) (fun _ z => z) q⟩
  obtain ⟨hz, z⟩ := ite_ret z
  have hDH : H D = none := s1.free hD
  refine ⟨fun i k H' => k = ds.length - i ∧ i ≤ ds.length ∧ ∃ acc ys, Same H1 H' ∧ H' D = some (.lst acc) ∧ Reps G (fun a => Fr N H a ∧ a ≠ D) H' ys acc ∧ acc.length ≤ i ∧ lcN p c e (wipeR ρ vs) (ds.drop i) (fun zs => PoR G N H Q (true, .lst (ys ++ zs))) (PoX G N Wx H σ), ⟨_, rfl, Nat.zero_le _, [], [], Same.updN (Same.refl H1) hD, upd_same, rfl, Nat.le_refl _, z⟩, ?_⟩
  rintro i k H2 ⟨rfl, hi, acc, ys, s2, hacc, ra, hl, z2⟩
  obtain ⟨sv1, sv2⟩ := sv H1 Part.refl i H2 s2
  by_cases hlt : i < ds.length
  · obtain ⟨d, hd⟩ : ∃ d, ds[i]? = some d := ⟨ds[i], by simp [hlt]⟩
    rw [drop_cons hd] at z2
    obtain ⟨go, yl⟩ := sv1 d hd
    refine .inr ⟨go, fun H' => ∃ acc ys, Same H1 H' ∧ H' D = some (.lst acc) ∧ Reps G (fun a => Fr N H a ∧ a ≠ D) H' ys acc ∧ acc.length ≤ i + 1 ∧ lcN p c e (wipeR ρ vs) (ds.drop (i + 1)) (fun zs => PoR G N H Q (true, .lst (ys ++ zs))) (PoX G N Wx H σ),
      fun H' w => ⟨ds.length - (i + 1), by omega, rfl, hlt, w⟩, fun x H3 y => ?_⟩
    obtain ⟨s3, r3⟩ := yl x H3 y
    unfold lcN at z2
    rcases ep : p d with _ | bs
    · rw [ep] at z2; exact z2.elim
    · rw [ep] at z2
      refine hg.st _ H3 d x bs _ _ r3 ep fun ws rb => ?_
      have hbs := hg.sl d bs ep
      have rb' : RepB G (fun a => Fr N H a ∧ a ≠ D) H3 bs ws := rb.imp fun d v r => r.sub fun a n => ⟨n.1, fun z => n.2 (z ▸ hD)⟩
      have er : ERel G (fun a => Fr N H a ∧ a ≠ D) H3 (setV (wipe σ vs) ws) (setR (wipeR ρ vs) bs) := by
        refine ERel.setR (fun b hb => by rw [wipe_length]; exact (hsl _ (hbs b hb)).2) ?_ rb'
        exact (rr.mono (N' := fun a => Fr N H a ∧ a ≠ D) (fun a n y => ⟨.inl n, fun z => y (z ▸ hDH)⟩) ((s1.trans s2).trans s3)).wipe vs
      refine ⟨wipe_setV fun w hw => (hsl _ (rb.slots hbs w hw)).1, _, _, er, (hcm _).run (fun b z H4 s4 => ?_) (fun _ z => z.elim) z2⟩
      have hD4 : H4 D = some (.lst acc) := s4 _ _ (s3 _ _ hacc)
      cases b with
      | false =>
        simp only [Bool.false_eq_true, if_false]
        exact ⟨acc, ys, (s2.trans s3).trans s4, hD4, ra.same (s3.trans s4), Nat.le_succ_of_le hl, z⟩
      | true =>
        simp only [if_true]
        refine ⟨_, _, er.same s4, (hem _).run (fun d' z v H5 s5 r5 => ?_) (fun _ z => z.elim) (show W.calm _ _ (PoX G N Wx H σ) from z)⟩
        have hD5 : H5 D = some (.lst acc) := s5 _ _ hD4
        refine ⟨acc, hD5, by omega, acc ++ [v], ys ++ [d'], Same.updN (((s2.trans s3).trans s4).trans s5) hD, upd_same, ?_, by simp; omega, ?_⟩
        · have ra5 : Reps G (fun a => Fr N H a ∧ a ≠ D) H5 (ys ++ [d']) (acc ++ [v]) := by
            refine Reps.app (ra.same ((s3.trans s4).trans s5)) (.one (r5.sub fun a n => ?_))
            rcases n with n | n
            · exact n
            · exact ⟨.inr ((((s1.trans s2).trans s3).trans s4).free n), fun z => by rw [z, hD4] at n; cases n⟩
          exact ra5.monoX (fun _ n _ => n) (LeX.upd hD5 trivial fun n => n.2 rfl)
        · exact (lcN_mono hcm hem _ _).run (fun zs y => by rw [List.append_assoc]; exact y) (fun _ y => y) z
  · have ei : i = ds.length := by omega
    subst ei
    have hn : ds[ds.length]? = none := by simp
    rw [List.drop_length] at z2
    have z2 : PoR G N H Q (true, .lst (ys ++ [])) := z2
    rw [List.append_nil] at z2
    exact .inl ⟨sv2 hn, z2 _ H2 (s1.trans s2) ⟨D, acc, rfl, .inr hDH, hacc, ra.sub fun _ n => n.1⟩ fun _ => ⟨D, rfl, hDH, acc, hacc, ra⟩⟩
theorem own_lt {X : Cx} {own : List (Str × Nat)} {scope : Scope} {sl : List Nat} {σ : Fb.St} (hl : σ.length = X.N.length) (ok : BlkOk X.N X.env.scope scope own) (hsl : ∀ i ∈ sl, i ∈ own.map (·.2)) : ∀ i ∈ sl, i ∈ own.map (·.2) ∧ i < σ.length := fun i hi => by
  have h := hsl i hi
  refine ⟨h, ?_⟩
  obtain ⟨p, hp, rfl⟩ := List.mem_map.mp h
  rw [hl]
  exact (List.getElem?_eq_some_iff.mp (ok.ix p hp)).1
theorem dr_lc {elt tg iter : Expr} {ifs : List Expr} {scope : Scope} {own : List (Str × Nat)} {pos : Pos} {m : Ro → W Ex (List D)} {g : TG} {p : D → Option (List (Nat × D))} {sl : List Nat} {c : Ro → W Ex Bool} {e : Ro → W Ex D} (hc : X.calm = true) (hN : X.N.Nodup) (hi : DI G X Wx tg iter m) (ok : BlkOk X.N X.env.scope scope own)
    (hg : ∀ (s : Shared) (H : Hp) (C : Addr) (cl : List (Str × Addr)) (fp : List Addr), DG G (X.blk s H scope (compEnvC scope cl C X.env) fp) tg g p sl) (hsl : ∀ i ∈ sl, i ∈ own.map (·.2)) (ht : ∀ (s : Shared) (H : Hp) (C : Addr) (cl : List (Str × Addr)) (fp : List Addr), DTs G (X.blk s H scope (compEnvC scope cl C X.env) fp) WxF ifs c)
    (he : ∀ (s : Shared) (H : Hp) (C : Addr) (cl : List (Str × Addr)) (fp : List Addr), DE G (X.blk s H scope (compEnvC scope cl C X.env) fp) WxF elt e) (hs : ∀ x, foldedSetIterable iter X.env x = pure x := by intro _; rfl) :
    DR G X Wx (.ListComp elt [⟨tg, iter, ifs, 0⟩] scope pos) (mLc m (own.map (·.2)) p c e) := by
  refine ⟨⟨fun pins s σ H Q I h => ?_⟩, mLc_mono hi.mono (ht {} (fun _ => none) 0 [] []).mono (he {} (fun _ => none) 0 [] []).mono⟩
  exact (pe_lc hc hN hi.pi ok (fun s H C cl fp => (hg s H C cl fp).pg) (fun s H C cl fp => (ht s H C cl fp).pt) (fun s H C cl fp => (he s H C cl fp).pe) hs).run pins s σ H Q I
    (lc_tLc hi.mono (ht s H 0 [] []).mono (he s H 0 [] []).mono (hg s H 0 [] []) (own_lt I.len ok hsl) h)
/-- x = [..] on one line -/
theorem ds_setLc {i : Nat} {y : Str} {py : Pos} {elt tg iter : Expr} {ifs : List Expr} {scope : Scope} {own : List (Str × Nat)} {pos spos : Pos} {m : Ro → W Ex (List D)} {g : TG} {p : D → Option (List (Nat × D))} {sl : List Nat} {c : Ro → W Ex Bool} {e : Ro → W Ex D} (fz : List Nat)
    (hy : X.N[i]? = some y) (hyl : X.env.scope.names.lookup y = some .local) (hsw : swapsWith (.ListComp elt [⟨tg, iter, ifs, 0⟩] scope pos) (some (.Name y py)) spos.line X.env = pure true) (hc : X.calm = true) (hN : X.N.Nodup) (hi : DI G X Wx tg iter m) (ok : BlkOk X.N X.env.scope scope own)
    (hg : ∀ (s : Shared) (H : Hp) (C : Addr) (cl : List (Str × Addr)) (fp : List Addr), DG G (X.blk s H scope (compEnvC scope cl C X.env) fp) tg g p sl) (hsl : ∀ i ∈ sl, i ∈ own.map (·.2)) (ht : ∀ (s : Shared) (H : Hp) (C : Addr) (cl : List (Str × Addr)) (fp : List Addr), DTs G (X.blk s H scope (compEnvC scope cl C X.env) fp) WxF ifs c)
    (he : ∀ (s : Shared) (H : Hp) (C : Addr) (cl : List (Str × Addr)) (fp : List Addr), DE G (X.blk s H scope (compEnvC scope cl C X.env) fp) WxF elt e) (hs : ∀ x, foldedSetIterable iter X.env x = pure x := by intro _; rfl) :
    DS G X Wx (.Assign [.Name y py] (.ListComp elt [⟨tg, iter, ifs, 0⟩] scope pos) spos) (mSet fz i (mLc m (own.map (·.2)) p c e)) := by
  have mm := mLc_mono (vs := own.map (·.2)) (p := p) hi.mono (ht {} (fun _ => none) 0 [] []).mono (he {} (fun _ => none) 0 [] []).mono
  refine ⟨⟨fun pins s σ H D' I ⟨H0, N0, ρ, r, q⟩ => ?_⟩, fun ρ => (Mono.up (mm _)).bind fun _ => W.Mono.ret⟩
  refine (ps_setLc hc hN hy hyl hsw hi.pi ok (fun s H C cl fp => (hg s H C cl fp).pg) (fun s H C cl fp => (ht s H C cl fp).pt) (fun s H C cl fp => (he s H C cl fp).pe) hs).run pins s σ H D' I ?_
  obtain ⟨S, o⟩ := r.own
  refine lc_tLc hi.mono (ht s H 0 [] []).mono (he s H 0 [] []).mono (hg s H 0 [] []) (own_lt I.len ok hsl) ⟨_, _, o.sees fz, (mm _).run (fun p z v H1 s1 r1 f1 => ?_) (fun x z => ?_) q⟩
  · exact z _ _ ⟨r.same.trans s1, by rw [asg_len, List.length_set]; exact r.len, o.stored fz r.same r.len s1 r1 f1⟩
  · intro c dd H' s1 r1
    exact z σ c dd H' (r.step s1) (r1.mono fun _ y => y.out r.same)

/-! ### dict blocks -/
def putD (kvs : List (Key × D)) (k : Key) (d : D) : List (Key × D) :=
  if (kvs.any fun kv => decide (kv.1 = k)) = true then kvs.map (fun kv => if kv.1 = k then (kv.1, d) else kv) else kvs ++ [(k, d)]
theorem RepK.any {N : Addr → Prop} {H : Hp} {k : Key} : ∀ {kvs : List (Key × D)} {ks : List (Key × V)}, RepK G N H kvs ks → (ks.any fun kv => decide (kv.1 = k)) = (kvs.any fun kv => decide (kv.1 = k))
  | [], _, h => by rw [show _ = [] from h]; rfl
  | (_, _) :: _, _, ⟨w, ws, e, _, rs⟩ => by subst e; rw [List.any_cons, List.any_cons, RepK.any rs]
theorem RepK.map {N : Addr → Prop} {H : Hp} {k : Key} {d : D} {v : V} (rv : Rep G N H d v) : ∀ {kvs : List (Key × D)} {ks : List (Key × V)}, RepK G N H kvs ks → RepK G N H (kvs.map fun kv => if kv.1 = k then (kv.1, d) else kv) (ks.map fun kv => if kv.1 = k then (kv.1, v) else kv)
  | [], _, h => by rw [show _ = [] from h]; rfl
  | (k', d') :: r, _, ⟨w, ws, e, r1, rs⟩ => by
    subst e
    rw [List.map_cons, List.map_cons]
    by_cases h : k' = k
    · rw [if_pos (show (k', d').1 = k from h), if_pos (show (k', w).1 = k from h)]
      exact ⟨v, _, rfl, rv, RepK.map rv rs⟩
    · rw [if_neg (show ¬ (k', d').1 = k from h), if_neg (show ¬ (k', w).1 = k from h)]
      exact ⟨w, _, rfl, r1, RepK.map rv rs⟩
theorem RepK.app {N : Addr → Prop} {H : Hp} : ∀ {ds es : List (Key × D)} {vs ws : List (Key × V)}, RepK G N H ds vs → RepK G N H es ws → RepK G N H (ds ++ es) (vs ++ ws)
  | [], _, _, _, h, h' => by rw [show _ = [] from h]; exact h'
  | (_, _) :: _, _, _, _, ⟨w, ws, e, r, rs⟩, h' => by subst e; exact ⟨w, _, rfl, r, RepK.app rs h'⟩
theorem RepK.put {N : Addr → Prop} {H : Hp} {k : Key} {d : D} {v : V} (rv : Rep G N H d v) {kvs : List (Key × D)} {ks : List (Key × V)} (r : RepK G N H kvs ks) : RepK G N H (putD kvs k d) (putK ks k v) := by
  unfold putD putK
  rw [r.any]
  by_cases h : (kvs.any fun kv => decide (kv.1 = k)) = true
  · rw [if_pos h, if_pos h]; exact RepK.map rv r
  · rw [if_neg h, if_neg h]; exact RepK.app r ⟨v, [], rfl, rv, rfl⟩
def dcN (p : D → Option (List (Nat × D))) (c : Ro → W Ex Bool) (e f : Ro → W Ex D) (ρ : Ro) : List (Key × D) → List D → W Ex (List (Key × D))
  | kvs, [] => W.ret kvs
  | kvs, d :: ds => match p d with
    | none => W.fail
    | some bs => W.bind (W.calm (c (setR ρ bs))) fun b => if b = true then W.bind (W.calm (e (setR ρ bs))) fun y => W.bind (W.calm (f (setR ρ bs))) fun z => match keyOf y with
        | some k => dcN p c e f ρ (putD kvs k z) ds
        | none => W.fail
      else dcN p c e f ρ kvs ds
def mDc (m : Ro → W Ex (List D)) (vs : List Nat) (p : D → Option (List (Nat × D))) (c : Ro → W Ex Bool) (e f : Ro → W Ex D) : Ro → W Ex (Bool × D) := fun ρ =>
  W.bind (m ρ) fun ds => szd ds (W.bind (dcN p c e f (wipeR ρ vs) [] ds) fun ys => W.ret (true, .dic ys))
theorem dcN_mono {p : D → Option (List (Nat × D))} {c : Ro → W Ex Bool} {e f : Ro → W Ex D} (hc : ∀ ρ, W.Mono (c ρ)) (he : ∀ ρ, W.Mono (e ρ)) (hf : ∀ ρ, W.Mono (f ρ)) (ρ : Ro) : ∀ ds kvs, W.Mono (dcN p c e f ρ kvs ds)
  | [], _ => W.Mono.ret
  | d :: ds, kvs => by
    unfold dcN
    split
    · exact W.Mono.fail
    · refine (hc _).calm.bind fun b => ite_mono ((he _).calm.bind fun y => (hf _).calm.bind fun z => ?_) (dcN_mono hc he hf ρ ds kvs)
      split
      · exact dcN_mono hc he hf ρ ds _
      · exact W.Mono.fail
theorem mDc_mono {m : Ro → W Ex (List D)} {vs : List Nat} {p : D → Option (List (Nat × D))} {c : Ro → W Ex Bool} {e f : Ro → W Ex D} (hm : ∀ ρ, W.Mono (m ρ)) (hc : ∀ ρ, W.Mono (c ρ)) (he : ∀ ρ, W.Mono (e ρ)) (hf : ∀ ρ, W.Mono (f ρ)) (ρ : Ro) : W.Mono (mDc m vs p c e f ρ) :=
  (hm ρ).bind fun ds => szd_mono ((dcN_mono hc he hf _ ds []).bind fun _ => W.Mono.ret)
theorem dc_tDc {m : Ro → W Ex (List D)} {g : TG} {p : D → Option (List (Nat × D))} {sl vs : List Nat} {c : Ro → W Ex Bool} {e f : Ro → W Ex D} {tg : Expr} {σ : Fb.St} {H : Hp} {Q : VK} {X' : Cx}
    (hm : ∀ ρ, W.Mono (m ρ)) (hcm : ∀ ρ, W.Mono (c ρ)) (hem : ∀ ρ, W.Mono (e ρ)) (hfm : ∀ ρ, W.Mono (f ρ)) (hg : DG G X' tg g p sl) (hsl : ∀ i ∈ sl, i ∈ vs ∧ i < σ.length) (h : tR G Wx (mDc m vs p c e f) σ H Q) : tDc (tI G Wx m) g (tT G WxF c) (tE G WxF e) (tE G WxF f) vs σ H Q := by
  obtain ⟨N, ρ, rr, q⟩ := h
  refine ⟨N, ρ, rr, (hm ρ).run (fun ds z J H1 s1 sv D hD => ?_) (fun _ z => z) q⟩
  obtain ⟨hz, z⟩ := ite_ret z
  have hDH : H D = none := s1.free hD
  refine ⟨fun i k H' => k = ds.length - i ∧ i ≤ ds.length ∧ ∃ acc ys, Same H1 H' ∧ H' D = some (.dK acc) ∧ RepK G (fun a => Fr N H a ∧ a ≠ D) H' ys acc ∧ acc.length ≤ i ∧ dcN p c e f (wipeR ρ vs) ys (ds.drop i) (fun zs => PoR G N H Q (true, .dic zs)) (PoX G N Wx H σ), ⟨_, rfl, Nat.zero_le _, [], [], Same.updN (Same.refl H1) hD, upd_same, rfl, Nat.le_refl _, z⟩, ?_⟩
  rintro i k H2 ⟨rfl, hi, acc, ys, s2, hacc, ra, hl, z2⟩
  obtain ⟨sv1, sv2⟩ := sv H1 Part.refl i H2 s2
  by_cases hlt : i < ds.length
  · obtain ⟨d, hd⟩ : ∃ d, ds[i]? = some d := ⟨ds[i], by simp [hlt]⟩
    rw [drop_cons hd] at z2
    obtain ⟨go, yl⟩ := sv1 d hd
    refine .inr ⟨go, fun H' => ∃ acc ys, Same H1 H' ∧ H' D = some (.dK acc) ∧ RepK G (fun a => Fr N H a ∧ a ≠ D) H' ys acc ∧ acc.length ≤ i + 1 ∧ dcN p c e f (wipeR ρ vs) ys (ds.drop (i + 1)) (fun zs => PoR G N H Q (true, .dic zs)) (PoX G N Wx H σ),
      fun H' w => ⟨ds.length - (i + 1), by omega, rfl, hlt, w⟩, fun x H3 y => ?_⟩
    obtain ⟨s3, r3⟩ := yl x H3 y
    unfold dcN at z2
    rcases ep : p d with _ | bs
    · rw [ep] at z2; exact z2.elim
    · rw [ep] at z2
      refine hg.st _ H3 d x bs _ _ r3 ep fun ws rb => ?_
      have hbs := hg.sl d bs ep
      have rb' : RepB G (fun a => Fr N H a ∧ a ≠ D) H3 bs ws := rb.imp fun d v r => r.sub fun a n => ⟨n.1, fun z => n.2 (z ▸ hD)⟩
      have er : ERel G (fun a => Fr N H a ∧ a ≠ D) H3 (setV (wipe σ vs) ws) (setR (wipeR ρ vs) bs) := by
        refine ERel.setR (fun b hb => by rw [wipe_length]; exact (hsl _ (hbs b hb)).2) ?_ rb'
        exact (rr.mono (N' := fun a => Fr N H a ∧ a ≠ D) (fun a n y => ⟨.inl n, fun z => y (z ▸ hDH)⟩) ((s1.trans s2).trans s3)).wipe vs
      refine ⟨wipe_setV fun w hw => (hsl _ (rb.slots hbs w hw)).1, _, _, er, (hcm _).run (fun b z H4 s4 => ?_) (fun _ z => z.elim) z2⟩
      have hD4 : H4 D = some (.dK acc) := s4 _ _ (s3 _ _ hacc)
      cases b with
      | false =>
        simp only [Bool.false_eq_true, if_false]
        exact ⟨acc, ys, (s2.trans s3).trans s4, hD4, RepK.mono (fun _ n _ => n) (Le.of (s3.trans s4)) ra, Nat.le_succ_of_le hl, z⟩
      | true =>
        simp only [if_true]
        refine ⟨_, _, er.same s4, (hem _).run (fun dk z vk H5 s5 r5 => ?_) (fun _ z => z.elim) (show W.calm _ _ (PoX G N Wx H σ) from z)⟩
        refine ⟨_, _, (er.same s4).same s5, (hfm _).run (fun d' z v H6 s6 r6 => ?_) (fun _ z => z.elim) (show W.calm _ _ (PoX G N Wx H σ) from z)⟩
        have hD6 : H6 D = some (.dK acc) := s6 _ _ (s5 _ _ hD4)
        rcases ek : keyOf dk with _ | ky
        · have z : (match keyOf dk with | some k => dcN p c e f (wipeR ρ vs) (putD ys k d') (ds.drop (i + 1)) | none => W.fail) (fun zs => PoR G N H Q (true, .dic zs)) (PoX G N Wx H σ) := z
          rw [ek] at z; exact z.elim
        · have z : (match keyOf dk with | some k => dcN p c e f (wipeR ρ vs) (putD ys k d') (ds.drop (i + 1)) | none => W.fail) (fun zs => PoR G N H Q (true, .dic zs)) (PoX G N Wx H σ) := z
          rw [ek] at z
          refine ⟨acc, ky, r5.key ek, hD6, by omega, putK acc ky v, putD ys ky d', Same.updN ((((s2.trans s3).trans s4).trans s5).trans s6) hD, upd_same, ?_, Nat.le_trans (length_putK acc ky v) (by omega), z⟩
          have ra6 : RepK G (fun a => Fr N H a ∧ a ≠ D) H6 (putD ys ky d') (putK acc ky v) := by
            refine RepK.put (r6.sub fun a n => ?_) (RepK.mono (fun _ n _ => n) (Le.of (((s3.trans s4).trans s5).trans s6)) ra)
            rcases n with n | n
            · exact n
            · exact ⟨.inr (((((s1.trans s2).trans s3).trans s4).trans s5).free n), fun z => by rw [z, s5 _ _ hD4] at n; cases n⟩
          exact RepK.monoX (fun _ n _ => n) (LeX.upd hD6 trivial fun n => n.2 rfl) ra6
  · have ei : i = ds.length := by omega
    subst ei
    have hn : ds[ds.length]? = none := by simp
    rw [List.drop_length] at z2
    have z2 : PoR G N H Q (true, .dic ys) := by unfold dcN at z2; exact z2
    exact .inl ⟨sv2 hn, z2 _ H2 (s1.trans s2) ⟨D, acc, rfl, .inr hDH, .inl hacc, RepK.mono (fun _ n _ => n.1) (Le.of (Same.refl H2)) ra⟩ fun _ => ⟨D, rfl, hDH, acc, hacc, ra⟩⟩
theorem dr_dc {kx vx tg iter : Expr} {ifs : List Expr} {scope : Scope} {own : List (Str × Nat)} {pos : Pos} {m : Ro → W Ex (List D)} {g : TG} {p : D → Option (List (Nat × D))} {sl : List Nat} {c : Ro → W Ex Bool} {e f : Ro → W Ex D} (hc : X.calm = true) (hN : X.N.Nodup) (hi : DI G X Wx tg iter m) (ok : BlkOk X.N X.env.scope scope own)
    (hg : ∀ (s : Shared) (H : Hp) (C : Addr) (cl : List (Str × Addr)) (fp : List Addr), DG G (X.blk s H scope (compEnvC scope cl C X.env) fp) tg g p sl) (hsl : ∀ i ∈ sl, i ∈ own.map (·.2)) (ht : ∀ (s : Shared) (H : Hp) (C : Addr) (cl : List (Str × Addr)) (fp : List Addr), DTs G (X.blk s H scope (compEnvC scope cl C X.env) fp) WxF ifs c)
    (hk : ∀ (s : Shared) (H : Hp) (C : Addr) (cl : List (Str × Addr)) (fp : List Addr), DE G (X.blk s H scope (compEnvC scope cl C X.env) fp) WxF kx e)
    (he : ∀ (s : Shared) (H : Hp) (C : Addr) (cl : List (Str × Addr)) (fp : List Addr), DE G (X.blk s H scope (compEnvC scope cl C X.env) fp) WxF vx f) (hs : ∀ x, foldedSetIterable iter X.env x = pure x := by intro _; rfl) :
    DR G X Wx (.DictComp kx vx [⟨tg, iter, ifs, 0⟩] scope pos) (mDc m (own.map (·.2)) p c e f) := by
  refine ⟨⟨fun pins s σ H Q I h => ?_⟩, mDc_mono hi.mono (ht {} (fun _ => none) 0 [] []).mono (hk {} (fun _ => none) 0 [] []).mono (he {} (fun _ => none) 0 [] []).mono⟩
  exact (pe_dc hc hN hi.pi ok (fun s H C cl fp => (hg s H C cl fp).pg) (fun s H C cl fp => (ht s H C cl fp).pt) (fun s H C cl fp => (hk s H C cl fp).pe) (fun s H C cl fp => (he s H C cl fp).pe) hs).run pins s σ H Q I
    (dc_tDc hi.mono (ht s H 0 [] []).mono (hk s H 0 [] []).mono (he s H 0 [] []).mono (hg s H 0 [] []) (own_lt I.len ok hsl) h)
/-- x = {..} on one line (as ps_setLc) -/
theorem ps_setDc {i : Nat} {y : Str} {py : Pos} {kx vx tg iter : Expr} {ifs : List Expr} {scope : Scope} {own : List (Str × Nat)} {pos spos : Pos} {wi : TI} {g : TG} {tt : TT} {tk tv : TE} (hc : X.calm = true) (hN : X.N.Nodup) (hy : X.N[i]? = some y) (hyl : X.env.scope.names.lookup y = some .local)
    (hsw : swapsWith (.DictComp kx vx [⟨tg, iter, ifs, 0⟩] scope pos) (some (.Name y py)) spos.line X.env = pure true) (hi : PI X tg iter wi) (ok : BlkOk X.N X.env.scope scope own)
    (hg : ∀ (s : Shared) (H : Hp) (C : Addr) (cl : List (Str × Addr)) (fp : List Addr), PG (X.blk s H scope (compEnvC scope cl C X.env) fp) tg g) (ht : ∀ (s : Shared) (H : Hp) (C : Addr) (cl : List (Str × Addr)) (fp : List Addr), PTs (X.blk s H scope (compEnvC scope cl C X.env) fp) ifs tt)
    (hk : ∀ (s : Shared) (H : Hp) (C : Addr) (cl : List (Str × Addr)) (fp : List Addr), PE (X.blk s H scope (compEnvC scope cl C X.env) fp) kx tk)
    (he : ∀ (s : Shared) (H : Hp) (C : Addr) (cl : List (Str × Addr)) (fp : List Addr), PE (X.blk s H scope (compEnvC scope cl C X.env) fp) vx tv) (hs : ∀ x, foldedSetIterable iter X.env x = pure x := by intro _; rfl) :
    PS X (.Assign [.Name y py] (.DictComp kx vx [⟨tg, iter, ifs, 0⟩] scope pos) spos) (tAsg (tDc wi g tt tk tv (own.map (·.2))) (gName i)) := by
  refine ⟨fun pins s σ H D I h => ?_⟩
  rw [exec_Assign_Name_used _ _ _ _ hsw]
  refine wpAny_bind (wpAny_standAt (wpAny_bind ?_))
  have h : tDc wi g tt tk tv (own.map (·.2)) σ H (fun x H1 => gName i x σ H1 D.nx) := h
  refine wpAny_bind (thn (dc_core (use := some (assign (.Name y py) X.env)) (Qf := fun _ s' => SP X pins D .next s') hc hN I hi ok hg ht hk he hs h fun L C s' m H' I' q hn f => ?_) fun _ s' hq => wpAny_pure (wpAny_pure hq))
  show wpAny _ _ (assign (.Name y py) X.env (.ref L)) _ _ _
  refine wpAny_assign_Name (store_ok2 (v := V.ref L) I' hN hy (.inl hyl) rfl (fun s2 I2 ⟨a, sb, ha⟩ => ?_) (.inr hyl))
  obtain ⟨f0, f1, f2, f3, f4, f5⟩ := f
  have haC : C ≠ a := by
    rcases ha with z | z
    · rw [z]; exact f1
    · exact fun e => f4 y a z e.symm
  refine ⟨m, hn.sameBut sb haC, fun h3 sb3 => ?_⟩
  exact ⟨_, H', I2.turned (t' := s2.toks) (fun b o hb e => (sb3.2 b hb).trans e) f0 f1 f3 f4 f5, q⟩
theorem sw_trueD {kx vx : Expr} {gs : List Comprehension} {scope : Scope} {pos py : Pos} {y : Str} {l : Nat} {env : Env} (hk : env.scope.kind = .function) (hy : env.scope.names.lookup y = some .local) (hl : (py.line == pos.line) = true)
    (ha : (scope.names.any fun (n, k) => n == y && (k == .local || k == .cell)) = false) : swapsWith (.DictComp kx vx gs scope pos) (some (.Name y py)) l env = pure true := by
  have ky : env.kindOf y = some .local := hy
  have hb : env.blockKind = .function := by unfold Env.blockKind; rw [hk]; rfl
  unfold swapsWith
  simp only [hb, ky, ha, Expr.pos, hl]
  rfl
theorem ds_setDc {i : Nat} {y : Str} {py : Pos} {kx vx tg iter : Expr} {ifs : List Expr} {scope : Scope} {own : List (Str × Nat)} {pos spos : Pos} {m : Ro → W Ex (List D)} {g : TG} {p : D → Option (List (Nat × D))} {sl : List Nat} {c : Ro → W Ex Bool} {e f : Ro → W Ex D} (fz : List Nat)
    (hy : X.N[i]? = some y) (hyl : X.env.scope.names.lookup y = some .local) (hsw : swapsWith (.DictComp kx vx [⟨tg, iter, ifs, 0⟩] scope pos) (some (.Name y py)) spos.line X.env = pure true) (hc : X.calm = true) (hN : X.N.Nodup) (hi : DI G X Wx tg iter m) (ok : BlkOk X.N X.env.scope scope own)
    (hg : ∀ (s : Shared) (H : Hp) (C : Addr) (cl : List (Str × Addr)) (fp : List Addr), DG G (X.blk s H scope (compEnvC scope cl C X.env) fp) tg g p sl) (hsl : ∀ i ∈ sl, i ∈ own.map (·.2)) (ht : ∀ (s : Shared) (H : Hp) (C : Addr) (cl : List (Str × Addr)) (fp : List Addr), DTs G (X.blk s H scope (compEnvC scope cl C X.env) fp) WxF ifs c)
    (hk : ∀ (s : Shared) (H : Hp) (C : Addr) (cl : List (Str × Addr)) (fp : List Addr), DE G (X.blk s H scope (compEnvC scope cl C X.env) fp) WxF kx e)
    (he : ∀ (s : Shared) (H : Hp) (C : Addr) (cl : List (Str × Addr)) (fp : List Addr), DE G (X.blk s H scope (compEnvC scope cl C X.env) fp) WxF vx f) (hs : ∀ x, foldedSetIterable iter X.env x = pure x := by intro _; rfl) :
    DS G X Wx (.Assign [.Name y py] (.DictComp kx vx [⟨tg, iter, ifs, 0⟩] scope pos) spos) (mSet fz i (mDc m (own.map (·.2)) p c e f)) := by
  have mm := mDc_mono (vs := own.map (·.2)) (p := p) hi.mono (ht {} (fun _ => none) 0 [] []).mono (hk {} (fun _ => none) 0 [] []).mono (he {} (fun _ => none) 0 [] []).mono
  refine ⟨⟨fun pins s σ H D' I ⟨H0, N0, ρ, r, q⟩ => ?_⟩, fun ρ => (Mono.up (mm _)).bind fun _ => W.Mono.ret⟩
  refine (ps_setDc hc hN hy hyl hsw hi.pi ok (fun s H C cl fp => (hg s H C cl fp).pg) (fun s H C cl fp => (ht s H C cl fp).pt) (fun s H C cl fp => (hk s H C cl fp).pe) (fun s H C cl fp => (he s H C cl fp).pe) hs).run pins s σ H D' I ?_
  obtain ⟨S, o⟩ := r.own
  refine dc_tDc hi.mono (ht s H 0 [] []).mono (hk s H 0 [] []).mono (he s H 0 [] []).mono (hg s H 0 [] []) (own_lt I.len ok hsl) ⟨_, _, o.sees fz, (mm _).run (fun p z v H1 s1 r1 f1 => ?_) (fun x z => ?_) q⟩
  · exact z _ _ ⟨r.same.trans s1, by rw [asg_len, List.length_set]; exact r.len, o.stored fz r.same r.len s1 r1 f1⟩
  · intro c dd H' s1 r1
    exact z σ c dd H' (r.step s1) (r1.mono fun _ y => y.out r.same)
end
end Fb
end

section
set_option Elab.async false
set_option linter.all false
set_option maxRecDepth 100000
set_option maxHeartbeats 4000000
/-! list, tuple, dict, sorted. -/
namespace Fb
open PySem PySem.Spec PyProof.Rows L2
section
variable {G : Wd} {X : Cx} {Wx : WX}
def keyD : Key → D
  | .inl i => .int i
  | .inr x => .str x
def gList : List D → Rt
  | [.lst ds] => W.ret (true, .lst ds)
  | [.tup ds] => W.ret (true, .lst ds)
  | [.dic kvs] => W.ret (true, .lst (kvs.map fun kv => keyD kv.1))
  | _ => W.fail
theorem gList_mono (ds : List D) : W.Mono (gList ds) := by
  unfold gList
  split <;> first | exact W.Mono.ret | exact W.Mono.fail
theorem gList_inv {ds : List D} {Q : Bool × D → Prop} {E : Ex → Prop} (h : gList ds Q E) : (∃ xs, (ds = [.lst xs] ∨ ds = [.tup xs]) ∧ Q (true, .lst xs)) ∨ ∃ kvs, ds = [.dic kvs] ∧ Q (true, .lst (kvs.map fun kv => keyD kv.1)) := by
  unfold gList at h
  split at h
  · exact .inl ⟨_, .inl rfl, h⟩
  · exact .inl ⟨_, .inr rfl, h⟩
  · exact .inr ⟨_, rfl, h⟩
  · exact h.elim
theorem keyD_rep {N : Addr → Prop} {H : Hp} (k : Key) : Rep G N H (keyD k) (kV k) := by
  cases k <;> rfl
theorem RepK.keys {N : Addr → Prop} {H : Hp} : ∀ {kvs : List (Key × D)} {ks : List (Key × V)}, RepK G N H kvs ks → Reps G N H (kvs.map fun kv => keyD kv.1) (ks.map fun kv => kV kv.1)
  | [], _, h => by rw [show _ = [] from h]; rfl
  | (k, _) :: _, _, ⟨w, ws, e, _, rs⟩ => by subst e; exact ⟨_, _, rfl, keyD_rep k, RepK.keys rs⟩
theorem bl_list (Z : X.K = G.K) (hc : X.calm = true) : CallR X (.type "list") (rD G gList) := by
  intro pins s σ H xs us Q I r h
  obtain ⟨N, ds, rr, q⟩ := h
  rcases gList_inv q with ⟨xs, rfl | rfl, q⟩ | ⟨kvs, rfl, q⟩
  · obtain ⟨v, rfl, a, vs, rfl, n, e, rs⟩ := rr.one_inv
    exact call_list_of pins s σ H _ us Q I r ⟨a, vs, rfl, .inl (.of e), fun l hl => new_lst rs q l hl⟩
  · obtain ⟨v, rfl, a, vs, rfl, e, rs⟩ := rr.one_inv
    exact call_list_of pins s σ H _ us Q I r ⟨a, vs, rfl, .inr (Z ▸ e.sq), fun l hl => new_lst rs q l hl⟩
  · obtain ⟨v, rfl, a, vs, rfl, n, e, rs⟩ := rr.one_inv
    exact call_listD hc pins s σ H _ us Q I r ⟨a, vs, rfl, e, fun l hl => new_lst rs.keys q l hl⟩
def gTuple : List D → Rt
  | [.lst ds] => W.ret (false, .tup ds)
  | [.tup ds] => W.ret (false, .tup ds)
  | _ => W.fail
theorem gTuple_mono (ds : List D) : W.Mono (gTuple ds) := by
  unfold gTuple
  split <;> first | exact W.Mono.ret | exact W.Mono.fail
theorem bl_tuple (Z : X.K = G.K) : CallR X (.type "tuple") (rD G gTuple) := by
  intro pins s σ H xs us Q I r h
  obtain ⟨N, ds, rr, q⟩ := h
  unfold gTuple at q
  split at q
  · obtain ⟨v, rfl, a, vs, rfl, n, e, rs⟩ := rr.one_inv
    exact call_tuple_of pins s σ H _ us Q I r ⟨a, vs, rfl, .inl ⟨.of e, fun l hl => new_tup rs q l hl⟩⟩
  · obtain ⟨v, rfl, a, vs, rfl, e, rs⟩ := rr.one_inv
    exact call_tuple_of pins s σ H _ us Q I r ⟨a, vs, rfl, .inr ⟨Z ▸ e.sq, q _ H (Same.refl H) ⟨a, vs, rfl, e, rs.sub fun _ => Fr.of⟩ fun z => nomatch z⟩⟩
  · exact q.elim
def gDict : List D → Rt
  | [.dic kvs] => W.ret (true, .dic kvs)
  | _ => W.fail
theorem gDict_mono (ds : List D) : W.Mono (gDict ds) := by
  unfold gDict
  split <;> first | exact W.Mono.ret | exact W.Mono.fail
theorem bl_dict : CallR X (.type "dict") (rD G gDict) := by
  intro pins s σ H xs us Q I r h
  obtain ⟨N, ds, rr, q⟩ := h
  unfold gDict at q
  split at q
  · obtain ⟨v, rfl, a, vs, rfl, n, e, rs⟩ := rr.one_inv
    exact call_dictD pins s σ H _ us Q I r ⟨a, vs, rfl, e, fun l hl => new_dic rs q l hl⟩
  · exact q.elim

/-! ### sorted -/
section
open PySem.W PySem.Calls
variable {prog : Program} {w : World} {A : Around} {E : Value → Shared → Prop} {s : Shared} {β : Type} {vs : List Value} {bs : List β} {enc : β → PyData} {R : Value → β → Prop}
theorem sorted_seq {it : Addr} {T : String} {o : Obj} {n : Nat} {Q : Value → Shared → Prop} (hT : T = "list" ∨ T = "tuple") (ho : s.heap.get? it = some o) (hc : o.cls = .type T) (hd : o.data = .seq vs.toArray n) (e : EachIs R vs bs) (er : EachIs (fun v b => ∃ as, Reads s.heap v (enc b) as) vs bs)
    (hal : AllAlike (bs.map enc)) (hk : Sortable (bs.map enc)) (hL : bs.length ≤ sizeLine) (hu : ∀ b, b ∈ bs → A.units + 2 + (enc b).depth < cLine)
    (h : ∀ (h1 h' : Heap) (out : List Value) (c : Nat), (∀ b o, s.heap.get? b = some o → h1.get? b = some o) → (∀ b o, h1.get? b = some o → h'.get? b = some o) → h'.get? h1.objs.size = some { cls := .type "list", data := .seq out.toArray c } → out.length = bs.length → EachIs R out (bs.mergeSort (dataLe false enc)) → Q (.ref h1.objs.size) { s with heap := h' }) :
    wpAny (model prog w) A (call (.builtin "sorted") [.ref it]) Q E s := by
  have hvl : vs.length ≤ sizeLine := by rw [e.length]; exact hL
  refine call_function_entry_kw kind_sorted plain_sorted entry_sorted (args_sorted1 _) ?_
  unfold Builtin.«sorted»
  refine wpAny_bind (m := checkCount "sorted" 1 1 _) (wpAny_pure ?_)
  refine wpAny_bind (wpAny_collect_seq it hT ho hc hd (fun h1 k1 => ?_) (by rw [List.size_toArray]; exact hvl))
  refine wpAny_bind (wpAny_newList ?_ (by simpa using hvl))
  have hat : (h1.push (seqObj "list" vs.toArray 0)).get? h1.objs.size = some (seqObj "list" vs.toArray 0) := Heap.get?_push_size _ rfl
  have k2 : ∀ b o, s.heap.get? b = some o → (h1.push (seqObj "list" vs.toArray 0)).get? b = some o := fun b o q => Heap.get?_push_of_some _ (k1 b o q)
  show wpAny _ _ _ _ _ { s with heap := h1.push (seqObj "list" vs.toArray 0) }
  have hout : (bs.mergeSort (dataLe false enc)).length = bs.length := List.length_mergeSort ..
  refine wpAny_bind (wpAny_holding (wpAny_call_entry slot_list_sort ⟨_, hat, rfl⟩ entry_list_sort ?_ (args_list_sort _)))
  have er' : EachIs (fun v b => ∃ as, Reads (sortingHeap (h1.push (seqObj "list" vs.toArray 0)) h1.objs.size vs) v (enc b) as) vs bs := er.mono fun _ _ ⟨as, r⟩ => ⟨as, PyProof.Rows.Reads.keeps (fun b o q => sortingHeap_old (Nat.ne_of_lt (Heap.lt_size (k1 b o q))) (k2 b o q)) r⟩
  refine list_sort_vals (κ := dataKind (sortingHeap (h1.push (seqObj "list" vs.toArray 0)) h1.objs.size vs) (bs.map enc)) (s := { s with heap := h1.push (seqObj "list" vs.toArray 0) }) hat (SortsAt.data (s := { s with heap := sortingHeap (h1.push (seqObj "list" vs.toArray 0)) h1.objs.size vs }) (each_map (R := fun v d => ∃ as, Reads (sortingHeap (h1.push (seqObj "list" vs.toArray 0)) h1.objs.size vs) v d as) enc er') hal hk (bound_map hu)) hvl ?_
  refine ⟨_, rfl, wpAny_pure ?_⟩
  obtain ⟨ep, he'⟩ := PyProof.Rows.sortedHeap_at (vs := vs) (out := (sortVals (dataKind (sortingHeap (h1.push (seqObj "list" vs.toArray 0)) h1.objs.size vs) (bs.map enc)) false vs vs).toArray) hat
  refine ⟨_, rfl, ?_⟩
  refine h h1 _ _ ep k1 (fun b o q => ?_) he' (by rw [sortVals_length false rfl]; exact e.length) (sortVals_data false e er' hal)
  have q2 := Heap.get?_push_of_some (seqObj "list" vs.toArray 0) q
  rw [PyProof.Rows.sortedHeap_old (Nat.ne_of_lt (Heap.lt_size q)) (Heap.lt_size q2)]
  exact q2
end
open PySem.W in
/-- the data's order -/
def encD (d : D) : PyData := d.py.getD .none
def leD (a b : D) : Bool := PySem.W.dataLe false encD a b
def sortOk (ds : List D) : Bool :=
  ds.all (fun d => d.py.isSome && decide ((encD d).depth ≤ 60)) && ds.all (fun d => ds.all fun d' => PySem.W.alike (encD d) (encD d')) &&
    (ds.all (fun d => match encD d with | .tuple (_ :: _) => true | _ => false) || ds.all (fun d => match encD d with | .tuple _ => false | .none => false | _ => true)) && decide (ds.length ≤ sizeLine)
def gSorted : List D → Rt
  | [.lst ds] => if sortOk ds = true then W.ret (true, .lst (ds.mergeSort leD)) else W.fail
  | [.tup ds] => if sortOk ds = true then W.ret (true, .lst (ds.mergeSort leD)) else W.fail
  | _ => W.fail
theorem gSorted_mono (ds : List D) : W.Mono (gSorted ds) := by
  unfold gSorted
  split <;> first | exact ite_mono W.Mono.ret W.Mono.fail | exact W.Mono.fail
theorem gSorted_inv {ds : List D} {Q : Bool × D → Prop} {E : Ex → Prop} (h : gSorted ds Q E) : ∃ xs, (ds = [.lst xs] ∨ ds = [.tup xs]) ∧ sortOk xs = true ∧ Q (true, .lst (xs.mergeSort leD)) := by
  unfold gSorted at h
  split at h
  · obtain ⟨h1, h2⟩ := ite_ret h
    exact ⟨_, .inl rfl, h1, h2⟩
  · obtain ⟨h1, h2⟩ := ite_ret h
    exact ⟨_, .inr rfl, h1, h2⟩
  · exact h.elim
/-- values with their data -/
theorem Reps.each {N : Addr → Prop} {H : Hp} : ∀ {ds : List D} {vs : List V} {us : List Value}, Reps G N H ds vs → Vals vs us → ∃ bs : List (V × D), bs.map (·.1) = vs ∧ bs.map (·.2) = ds ∧ PySem.W.EachIs (fun u b => RelV b.1 u) us bs ∧ ∀ b ∈ bs, Rep G N H b.2 b.1
  | [], _, _, h, r => by
    rw [show _ = [] from h] at r ⊢
    cases r
    exact ⟨[], rfl, rfl, .nil, fun b hb => by cases hb⟩
  | d :: ds, _, _, ⟨w, ws, e, r, rs⟩, rv => by
    subst e
    cases rv with
    | cons r1 r2 =>
      obtain ⟨bs, h1, h2, h3, h4⟩ := Reps.each rs r2
      refine ⟨(w, d) :: bs, by rw [List.map_cons, h1], by rw [List.map_cons, h2], .cons r1 h3, fun b hb => ?_⟩
      rcases List.mem_cons.mp hb with e | hb
      · rw [e]; exact r
      · exact h4 b hb
theorem Reps.of_each {N : Addr → Prop} {H : Hp} : ∀ {bs : List (V × D)}, (∀ b ∈ bs, Rep G N H b.2 b.1) → Reps G N H (bs.map (·.2)) (bs.map (·.1))
  | [], _ => rfl
  | b :: bs, h => ⟨b.1, _, rfl, h b List.mem_cons_self, Reps.of_each fun b' hb => h b' (List.mem_cons_of_mem _ hb)⟩
theorem vals_each : ∀ {us : List Value} {bs : List (V × D)}, PySem.W.EachIs (fun u b => RelV b.1 u) us bs → Vals (bs.map (·.1)) us
  | _, _, .nil => .nil
  | _, _, .cons h t => .cons h (vals_each t)
theorem bl_sorted (Z : X.K = G.K) (hu : X.A.units + 65 < cLine) : CallR X (.builtin "sorted") (rD G gSorted) := by
  intro pins s σ H xs us Q I r h
  obtain ⟨N, ds, rr, q⟩ := h
  obtain ⟨xs, hx, ok, q⟩ := gSorted_inv q
  have main : ∀ (a : Addr) (vs : List V) (its : List Value) (T : String) (o : Obj) (n : Nat), Reps G N H xs vs → Vals vs its → (T = "list" ∨ T = "tuple") → s.heap.get? a = some o → o.cls = .type T → o.data = .seq its.toArray n → wpAny (model X.prog X.w) X.A (call (.builtin "sorted") [.ref a]) (EP X pins σ Q) X.xe s := by
    intro a vs its T o n rs rv hT ho hc hd
    obtain ⟨bs, e1, e2, e3, e4⟩ := rs.each rv
    unfold sortOk at ok
    simp only [Bool.and_eq_true, Bool.or_eq_true, List.all_eq_true, decide_eq_true_eq] at ok
    obtain ⟨⟨⟨ok1, ok2⟩, ok3⟩, ok4⟩ := ok
    have mem : ∀ b ∈ bs, b.2 ∈ xs := fun b hb => by rw [← e2]; exact List.mem_map.mpr ⟨b, hb, rfl⟩
    have er : PySem.W.EachIs (fun v b => ∃ as, Reads s.heap v (encD b.2) as) its bs := (PySem.W.each_mem e3).mono fun u b ⟨ru, hb⟩ => by
      obtain ⟨p, hp⟩ := Option.isSome_iff_exists.mp (ok1 _ (mem b hb)).1
      have : encD b.2 = p := by unfold encD; rw [hp]; rfl
      rw [this]
      exact Dp.reads I p b.1 u (Z ▸ (e4 b hb).dp hp) ru
    have hlen : bs.length = xs.length := by rw [← e2, List.length_map]
    refine sorted_seq (enc := fun b : V × D => encD b.2) hT ho hc hd e3 er (fun p hp p' hp' => ?_) ?_ (by rw [hlen]; exact ok4) (fun b hb => ?_) fun h1 h' out c k1 k2 hat hol hout => ?_
    · obtain ⟨b, hb, rfl⟩ := List.mem_map.mp hp
      obtain ⟨b', hb', rfl⟩ := List.mem_map.mp hp'
      exact ok2 _ (mem b hb) _ (mem b' hb')
    · rcases ok3 with ok3 | ok3
      · refine .inl fun p hp => ?_
        obtain ⟨b, hb, rfl⟩ := List.mem_map.mp hp
        have := ok3 _ (mem b hb)
        revert this
        show (match encD b.2 with | .tuple (_ :: _) => true | _ => false) = true → _
        split
        · exact fun _ => ⟨_, _, by assumption⟩
        · exact fun z => nomatch z
      · refine .inr fun p hp => ?_
        obtain ⟨b, hb, rfl⟩ := List.mem_map.mp hp
        have := ok3 _ (mem b hb)
        revert this
        show (match encD b.2 with | .tuple _ => false | .none => false | _ => true) = true → encD b.2 ≠ .none ∧ ∀ xs, encD b.2 ≠ .tuple xs
        split
        · exact fun z => nomatch z
        · exact fun z => nomatch z
        · exact fun _ => ⟨by assumption, by assumption⟩
    · have := (ok1 _ (mem b hb)).2
      show X.A.units + 2 + (encD b.2).depth < cLine
      omega
    · have I1 : Inv X pins σ H { s with heap := h1 } := I.kept (t' := s.toks) k1
      have hs : (bs.mergeSort (PySem.W.dataLe false fun b : V × D => encD b.2)).map (·.2) = xs.mergeSort leD := by
        rw [← e2, List.map_mergeSort]
        intro a _ b _
        rfl
      have rv' := vals_each hout
      have hz : ((bs.mergeSort (PySem.W.dataLe false fun b : V × D => encD b.2)).map (·.1)).length ≤ sizeLine := by rw [List.length_map, List.length_mergeSort, hlen]; exact ok4
      have I2 : Inv X pins σ (upd H h1.objs.size (.lst ((bs.mergeSort (PySem.W.dataLe false fun b : V × D => encD b.2)).map (·.1)))) { s with heap := h' } :=
        I1.laid (t' := s.toks) k2 (Nat.le_refl _) (show ObjOk X.prog X.w _ h' _ (.lst _) from ⟨hz, out, c, rv', hat⟩)
      refine ⟨.ref h1.objs.size, _, I2, rfl, new_lst ?_ q _ (I1.hok.fresh (Nat.le_refl _))⟩
      rw [← hs]
      exact Reps.of_each fun b hb => e4 b (List.mem_mergeSort.mp hb)
  rcases hx with rfl | rfl
  · obtain ⟨v, rfl, a, vs, rfl, n, e, rs⟩ := rr.one_inv
    obtain ⟨u, rfl, rx⟩ := vals1 r
    cases rx
    obtain ⟨its, rv, p, hz⟩ := I.list (SqL.of (K := X.K) e)
    obtain ⟨o, ho, hc, n, hd⟩ := p.isList
    exact main a vs its _ o n rs rv (.inl rfl) ho hc hd
  · obtain ⟨v, rfl, a, vs, rfl, e, rs⟩ := rr.one_inv
    obtain ⟨u, rfl, rx⟩ := vals1 r
    cases rx
    obtain ⟨its, rv, p, hz⟩ := I.tuple (Z ▸ e.sq)
    obtain ⟨o, ho, hc, n, hd⟩ := p
    exact main a vs its _ o n rs rv (.inr rfl) ho hc hd
end
end Fb
end

section
set_option Elab.async false
set_option linter.all false
set_option maxRecDepth 100000
set_option maxHeartbeats 4000000
/-! Changes of what a slot holds alone; methods. -/
namespace Fb
open PySem PySem.Spec PyProof.Rows L2
section
variable {G : Wd} {H0 H H1 : Hp} {N0 : Addr → Prop} {S : Nat → Option Addr} {σ : Fb.St} {ρ : En}
theorem Out.notS {i : Nat} {a : Addr} (h : S i = some a) : ¬ Out N0 H0 S a := fun z => z.2 i h
theorem OwnT.monoX {N N' : Addr → Prop} {a : Addr} {d : D} {H' : Hp} (hN : ∀ b, N b → H b ≠ none → N' b) (hL : LeX N H H') (ha : H' a = H a) (h : OwnT G N H a d) : OwnT G N' H' a d := by
  cases d with
  | lst ds => obtain ⟨vs, e, r⟩ := h; exact ⟨vs, ha.trans e, r.monoX hN hL⟩
  | dic ds => obtain ⟨vs, e, r⟩ := h; exact ⟨vs, ha.trans e, RepK.monoX hN hL r⟩
  | _ => exact h.elim
/-- what slot i holds alone is changed -/
theorem OwnOk.mut {i : Nat} {a : Addr} {d d' : D} {u : HO} (o : OwnOk G H0 N0 S σ H ρ) (hi : ρ[i]? = some (some (true, d))) (hS : S i = some a) (w : OwnT G (Out N0 H0 S) (upd H a u) a d') : OwnOk G H0 N0 S σ (upd H a u) (ρ.set i (some (true, d'))) := by
  obtain ⟨x, hx, kx⟩ := o.kind i a hS
  have lx : LeX (Out N0 H0 S) H (upd H a u) := LeX.upd hx kx (Out.notS hS)
  refine ⟨fun j b e => ⟨(o.new j b e).1, ?_⟩, fun j b e => ?_, o.inj, fun j d2 e => ?_, fun j d2 e => ?_⟩
  · by_cases hb : b = a
    · rw [hb, upd_same]; exact fun z => nomatch z
    · rw [upd_ne hb]; exact (o.new j b e).2
  · by_cases hb : b = a
    · rw [hb]; exact w.kind
    · rw [upd_ne hb]; exact o.kind j b e
  · by_cases hj : j = i
    · subst hj
      rw [List.getElem?_set_self'] at e
      rw [hi] at e
      cases e
    · rw [List.getElem?_set_ne (Ne.symm hj)] at e
      obtain ⟨v, e1, r1⟩ := o.shr j d2 e
      exact ⟨v, e1, r1.monoX (fun _ n _ => n) lx⟩
  · by_cases hj : j = i
    · subst hj
      rw [List.getElem?_set_self', hi] at e
      cases e
      obtain ⟨b, e1, e2, r1⟩ := o.own j d hi
      rw [hS] at e2
      cases e2
      exact ⟨a, e1, hS, w⟩
    · rw [List.getElem?_set_ne (Ne.symm hj)] at e
      obtain ⟨b, e1, e2, r1⟩ := o.own j d2 e
      refine ⟨b, e1, e2, r1.monoX (fun _ n _ => n) lx (upd_ne fun z => hj (o.inj j i a (z ▸ e2) hS))⟩
theorem SRel.upd {a : Addr} {u : HO} {i : Nat} (h0 : Same H0 H) (o : OwnOk G H0 N0 S σ H ρ) (hS : S i = some a) : Same H0 (upd H a u) := Same.updN h0 (o.new i a hS).1
theorem frzFrom_keep {fz : List Nat} : ∀ {ρ : En} {k i : Nat}, k + i ∉ fz → (frzFrom fz k ρ)[i]? = ρ[i]?
  | [], _, _, _ => rfl
  | none :: r, k, 0, _ => rfl
  | some (b, d) :: r, k, 0, h => by
    have : k ∉ fz := by simpa using h
    simp [frzFrom, this]
  | none :: r, k, i + 1, h => by simpa [frzFrom] using frzFrom_keep (ρ := r) (k := k + 1) (i := i) (by rwa [Nat.add_assoc, Nat.add_comm 1 i])
  | some (b, d) :: r, k, i + 1, h => by simpa [frzFrom] using frzFrom_keep (ρ := r) (k := k + 1) (i := i) (by rwa [Nat.add_assoc, Nat.add_comm 1 i])
theorem frz_keep {fz : List Nat} {i : Nat} (h : i ∉ fz) : (frz fz ρ)[i]? = ρ[i]? := frzFrom_keep (by rwa [Nat.zero_add])
/-- the slots behind the taking of d into what slot i holds -/
def tak (fz : List Nat) (i : Nat) (d : D) (ρ : En) : Option En := if imm d = true then some ρ else if i ∈ fz then none else some (frz fz ρ)
/-- .. d can be put into it -/
theorem OwnOk.take (o : OwnOk G H0 N0 S σ H ρ) (h0 : Same H0 H) (s : Same H H1) {fz : List Nat} {i : Nat} {d : D} {v : V} {ρ' : En} (t : tak fz i d ρ = some ρ') (q : Rep G (Fr (Out N0 H0 (cut fz S)) H) H1 d v) :
    ∃ S', OwnOk G H0 N0 S' σ H1 ρ' ∧ ρ'.length = ρ.length ∧ ρ'[i]? = ρ[i]? ∧ Rep G (Out N0 H0 S') H1 d v := by
  unfold tak at t
  by_cases hi : imm d = true
  · rw [if_pos hi] at t
    cases t
    exact ⟨S, o.same s, rfl, rfl, Rep.imm hi q⟩
  · rw [if_neg hi] at t
    by_cases hf : i ∈ fz
    · rw [if_pos hf] at t; cases t
    · rw [if_neg hf] at t
      cases t
      refine ⟨cut fz S, (o.frz fz).same s, frz_len, frz_keep hf, q.sub fun c hc => hc.elim id fun z => ⟨.inr (h0.free z), fun j w => ?_⟩⟩
      exact (o.new j c (cut_some w).1).2 z
end
/-- with what is there -/
def W.got {ε α β : Type} (o : Option α) (k : α → W ε β) : W ε β := match o with
  | some a => k a
  | none => W.fail
theorem got_mono {ε α β : Type} {o : Option α} {k : α → W ε β} (h : ∀ a, W.Mono (k a)) : W.Mono (W.got o k) := by
  cases o with
  | none => exact W.Mono.fail
  | some a => exact h a
theorem got_inv {ε α β : Type} {o : Option α} {k : α → W ε β} {Q : β → Prop} {E : ε → Prop} (h : W.got o k Q E) : ∃ a, o = some a ∧ k a Q E := by
  cases o with
  | none => exact h.elim
  | some a => exact ⟨a, rfl, h⟩
def slotL : Option (Option (Bool × D)) → Option (List D)
  | some (some (true, .lst ds)) => some ds
  | _ => none
def slotK : Option (Option (Bool × D)) → Option (List (Key × D))
  | some (some (true, .dic ds)) => some ds
  | _ => none
theorem slotL_inv {o : Option (Option (Bool × D))} {ds : List D} (h : slotL o = some ds) : o = some (some (true, .lst ds)) := by
  unfold slotL at h
  split at h
  · cases h; rfl
  · cases h
theorem slotK_inv {o : Option (Option (Bool × D))} {ds : List (Key × D)} (h : slotK o = some ds) : o = some (some (true, .dic ds)) := by
  unfold slotK at h
  split at h
  · cases h; rfl
  · cases h
def mApp (fz : List Nat) (i : Nat) (m : Ro → W Ex D) : En → WS := fun ρ => W.got (slotL ρ[i]?) fun ds => W.bind (up ρ (m (see fz ρ))) fun d => W.got (tak fz i d ρ) fun ρ' => if ds.length < sizeLine then W.ret (.nx, ρ'.set i (some (true, .lst (ds ++ [d])))) else W.fail
section
variable {G : Wd} {X : Cx} {Wx : WX}
/-- a value seen with fz, to be put into what slot i holds -/
theorem DE.inF {e : Expr} {m : Ro → W Ex D} (h : DE G X Wx e m) {H0 H : Hp} {N0 : Addr → Prop} {σ : Fb.St} {ρ : En} {S : Nat → Option Addr} (h0 : Same H0 H) (hl : ρ.length = σ.length) (o : OwnOk G H0 N0 S σ H ρ) (fz : List Nat) {Q : VK} {P : D → Prop} (q : up ρ (m (see fz ρ)) P (PoXS G H0 N0 Wx))
    (hP : ∀ r v H1, P r → Same H H1 → Rep G (Fr (Out N0 H0 (cut fz S)) H) H1 r v → Q v H1) : tE G Wx m σ H Q := by
  refine ⟨_, _, o.sees fz, (h.mono _).run (fun r z v H1 s1 r1 => hP r v H1 z s1 r1) (fun x z => ?_) q⟩
  intro c dd H' s r
  exact z σ c dd H' ⟨h0.trans s, hl, _, o.same s⟩ (r.mono fun _ y => y.out h0)
theorem ds_append {i : Nat} {x : Str} {e : Expr} {m : Ro → W Ex D} {p apos cpos pos : Pos} (fz : List Nat) (hv : PE X (.Name x p) (tVar i)) (he : DE G X Wx e m)
    (hs : swapsWith (.Call (.Attribute (.Name x p) "append" apos) [e] [] cpos) none pos.line X.env = pure false := by rfl)
    (hbase : attributeBase (.Name x p) "append" X.env (eval (.Name x p) X.env) = eval (.Name x p) X.env := by rfl)
    (hfew : ((backTo cpos (starEach [e] X.env)).all (fun x => !x.1) && (backToKw cpos (keywordEach [] X.env)).all (fun x => x.1.isSome)
      && decide (([e] : List Expr).length + ([] : List Keyword).length + (if ([] : List Keyword).isEmpty then 0 else 1) < 30)) = true := by rfl)
    (hline : (apos.endLine == cpos.line) = true := by rfl) (hst : starEach [e] X.env = (false, eval e X.env) :: starEach [] X.env := by rfl) (hplain : (backTo cpos (starEach [] X.env)).any (·.1) = false := by rfl) :
    DS G X Wx (.Expr (.Call (.Attribute (.Name x p) "append" apos) [e] [] cpos) pos) (mApp fz i m) := by
  refine DS.imp (fun ρ => got_mono fun ds => (Mono.up (he.mono _)).bind fun d => got_mono fun _ => ite_mono W.Mono.ret W.Mono.fail) (ps_expr (pe_bm PySem.F.plainAttrs_list PySem.F.slot_list_append PySem.F.type_list_append mt_append hv (pa_cons he.pe pa_nil hst) hbase hfew hline hst hplain) hs) fun H0 N0 ρ σ H D' r q => ?_
  obtain ⟨S, o⟩ := r.own
  obtain ⟨ds, hd, q⟩ := got_inv q
  have hd := slotL_inv hd
  obtain ⟨a, ea, eS, vs, hvs, _⟩ := o.own i _ hd
  refine ⟨.ref a, ea, .inl ⟨rfl, vs, .of hvs⟩, he.inF r.same r.len o fz q fun d v H1 z s1 r1 => ?_⟩
  obtain ⟨ρ', ht, z⟩ := got_inv z
  obtain ⟨hz, z⟩ := ite_ret z
  obtain ⟨S', o', hl', hi', rv⟩ := o.take r.same s1 ht r1
  have hd' : ρ'[i]? = some (some (true, .lst ds)) := hi'.trans hd
  obtain ⟨b, eb, eS', ws, hws, rs⟩ := o'.own i _ hd'
  rw [ea] at eb
  cases eb
  have hvw : ws = vs := by rw [s1 _ _ hvs] at hws; cases hws; rfl
  subst hvw
  refine ⟨a, ws, v, rfl, rfl, hws, by rw [rs.length]; exact hz, ?_⟩
  obtain ⟨u, hu, ku⟩ := o'.kind i a eS'
  have lx : LeX (Out N0 H0 S') H1 (upd H1 a (.lst (ws ++ [v]))) := LeX.upd hu ku (Out.notS eS')
  exact z _ _ ⟨SRel.upd (r.same.trans s1) o' eS', by rw [List.length_set, hl']; exact r.len, S', o'.mut hd' eS' ⟨_, upd_same, (rs.app (.one rv)).monoX (fun _ n _ => n) lx⟩⟩
/-- x.extend(e) -/
def taks (fz : List Nat) (i : Nat) (es : List D) (ρ : En) : Option En := if imms es = true then some ρ else if i ∈ fz then none else some (frz fz ρ)
theorem OwnOk.takes {H0 H H1 : Hp} {N0 : Addr → Prop} {S : Nat → Option Addr} {σ : Fb.St} {ρ : En} (o : OwnOk G H0 N0 S σ H ρ) (h0 : Same H0 H) (s : Same H H1) {fz : List Nat} {i : Nat} {d : List D} {v : List V} {ρ' : En} (t : taks fz i d ρ = some ρ') (q : Reps G (Fr (Out N0 H0 (cut fz S)) H) H1 d v) :
    ∃ S', OwnOk G H0 N0 S' σ H1 ρ' ∧ ρ'.length = ρ.length ∧ ρ'[i]? = ρ[i]? ∧ Reps G (Out N0 H0 S') H1 d v := by
  unfold taks at t
  by_cases hi : imms d = true
  · rw [if_pos hi] at t
    cases t
    exact ⟨S, o.same s, rfl, rfl, Reps.imm hi q⟩
  · rw [if_neg hi] at t
    by_cases hf : i ∈ fz
    · rw [if_pos hf] at t; cases t
    · rw [if_neg hf] at t
      cases t
      refine ⟨cut fz S, (o.frz fz).same s, frz_len, frz_keep hf, q.sub fun c hc => hc.elim id fun z => ⟨.inr (h0.free z), fun j w => ?_⟩⟩
      exact (o.new j c (cut_some w).1).2 z
def asL : D → Option (List D)
  | .lst ds => some ds
  | _ => none
theorem asL_inv {d : D} {es : List D} (h : asL d = some es) : d = .lst es := by
  cases d <;> first | (cases h; done) | skip
  cases h; rfl
def mExt (fz : List Nat) (i : Nat) (m : Ro → W Ex D) : En → WS := fun ρ => W.got (slotL ρ[i]?) fun ds => W.bind (up ρ (m (see fz ρ))) fun d => W.got (asL d) fun es => W.got (taks fz i es ρ) fun ρ' => if ds.length + es.length ≤ sizeLine then W.ret (.nx, ρ'.set i (some (true, .lst (ds ++ es)))) else W.fail
theorem ds_extend {i : Nat} {x : Str} {e : Expr} {m : Ro → W Ex D} {p apos cpos pos : Pos} (fz : List Nat) (hv : PE X (.Name x p) (tVar i)) (he : DE G X Wx e m)
    (hs : swapsWith (.Call (.Attribute (.Name x p) "extend" apos) [e] [] cpos) none pos.line X.env = pure false := by rfl)
    (hbase : attributeBase (.Name x p) "extend" X.env (eval (.Name x p) X.env) = eval (.Name x p) X.env := by rfl)
    (hfew : ((backTo cpos (starEach [e] X.env)).all (fun x => !x.1) && (backToKw cpos (keywordEach [] X.env)).all (fun x => x.1.isSome)
      && decide (([e] : List Expr).length + ([] : List Keyword).length + (if ([] : List Keyword).isEmpty then 0 else 1) < 30)) = true := by rfl)
    (hline : (apos.endLine == cpos.line) = true := by rfl) (hst : starEach [e] X.env = (false, eval e X.env) :: starEach [] X.env := by rfl) (hplain : (backTo cpos (starEach [] X.env)).any (·.1) = false := by rfl) :
    DS G X Wx (.Expr (.Call (.Attribute (.Name x p) "extend" apos) [e] [] cpos) pos) (mExt fz i m) := by
  refine DS.imp (fun ρ => got_mono fun ds => (Mono.up (he.mono _)).bind fun d => got_mono fun _ => got_mono fun _ => ite_mono W.Mono.ret W.Mono.fail) (ps_expr (pe_bm PySem.F.plainAttrs_list PySem.F.slot_list_extend PySem.F.type_list_extend mt_extend hv (pa_cons he.pe pa_nil hst) hbase hfew hline hst hplain) hs) fun H0 N0 ρ σ H D' r q => ?_
  obtain ⟨S, o⟩ := r.own
  obtain ⟨ds, hd, q⟩ := got_inv q
  have hd := slotL_inv hd
  obtain ⟨a, ea, eS, vs, hvs, _⟩ := o.own i _ hd
  refine ⟨.ref a, ea, .inl ⟨rfl, vs, .of hvs⟩, he.inF r.same r.len o fz q fun d v H1 z s1 r1 => ?_⟩
  obtain ⟨es, hes, z2⟩ := got_inv z
  obtain ⟨ρ', ht, z3⟩ := got_inv z2
  obtain ⟨hz, z⟩ := ite_ret z3
  rw [asL_inv hes] at r1
  obtain ⟨c, zs, rfl, nc, hc, rz⟩ := r1
  obtain ⟨S', o', hl', hi', rv⟩ := o.takes r.same s1 ht rz
  have hd' : ρ'[i]? = some (some (true, .lst ds)) := hi'.trans hd
  obtain ⟨b, eb, eS', ws, hws, rs⟩ := o'.own i _ hd'
  rw [ea] at eb
  cases eb
  have hvw : ws = vs := by rw [s1 _ _ hvs] at hws; cases hws; rfl
  subst hvw
  refine ⟨a, c, ws, zs, rfl, rfl, hws, hc, by rw [rs.length, rz.length]; exact hz, ?_⟩
  obtain ⟨u, hu, ku⟩ := o'.kind i a eS'
  have lx : LeX (Out N0 H0 S') H1 (upd H1 a (.lst (ws ++ zs))) := LeX.upd hu ku (Out.notS eS')
  exact z _ _ ⟨SRel.upd (r.same.trans s1) o' eS', by rw [List.length_set, hl']; exact r.len, S', o'.mut hd' eS' ⟨_, upd_same, (rs.app rv).monoX (fun _ n _ => n) lx⟩⟩
/-- x[k] = e, x a dict -/
def mDput (fz : List Nat) (i : Nat) (mk m : Ro → W Ex D) : En → WS := fun ρ => W.got (slotK ρ[i]?) fun kvs => W.bind (up ρ (m (see fz ρ))) fun d => W.bind (up ρ (mk (ro ρ))) fun k => W.got (keyOf k) fun ky => W.got (tak fz i d ρ) fun ρ' => if kvs.length < sizeLine then W.ret (.nx, ρ'.set i (some (true, .dic (putD kvs ky d)))) else W.fail
theorem ds_dput {i : Nat} {x : Str} {k e : Expr} {mk m : Ro → W Ex D} {p pos' pos : Pos} (fz : List Nat) (hu : X.A.units + 65 < cLine) (hv : PE X (.Name x p) (tVar i)) (hk : DE G X Wx k mk) (he : DE G X Wx e m) (hs : swapsWith e (some (.Subscript (.Name x p) k pos')) pos.line X.env = pure false := by rfl) :
    DS G X Wx (.Assign [.Subscript (.Name x p) k pos'] e pos) (mDput fz i mk m) := by
  refine DS.imp (fun ρ => got_mono fun _ => (Mono.up (he.mono _)).bind fun d => (Mono.up (hk.mono _)).bind fun d => got_mono fun _ => got_mono fun _ => ite_mono W.Mono.ret W.Mono.fail) (ps_dput (by omega) hv hk.pe he.pe hs) fun H0 N0 ρ σ H D' r q => ?_
  obtain ⟨S, o⟩ := r.own
  obtain ⟨kvs, hd, q⟩ := got_inv q
  have hd0 := slotK_inv hd
  refine he.inF r.same r.len o fz q fun d v H1 z s1 r1 => ?_
  have r' := r.step s1
  obtain ⟨a, ea, eS, vs, hvs, _⟩ := o.own i _ hd0
  refine ⟨.ref a, ea, hk.inS r' z fun ky vk H2 z r2 s2 rk => ?_⟩
  obtain ⟨kk, hkk, z2⟩ := got_inv z
  obtain ⟨ρ', ht, z3⟩ := got_inv z2
  obtain ⟨hz, z⟩ := ite_ret z3
  obtain ⟨S', o', hl', hi', rv⟩ := o.take r.same (s1.trans s2) ht (r1.same s2)
  have hd' : ρ'[i]? = some (some (true, .dic kvs)) := hi'.trans hd0
  obtain ⟨b, eb, eS', ws, hws, rs⟩ := o'.own i _ hd'
  rw [ea] at eb
  cases eb
  have hl : ws.length < sizeLine := by rw [rs.length]; exact hz
  refine ⟨a, _, rfl, by rw [rk.key hkk]; exact DPut.k hws hl, ?_⟩
  obtain ⟨u, hu, ku⟩ := o'.kind i a eS'
  have lx : LeX (Out N0 H0 S') H2 (upd H2 a (.dK (putK ws kk v))) := LeX.upd hu ku (Out.notS eS')
  exact z _ _ ⟨SRel.upd ((r.same.trans s1).trans s2) o' eS', by rw [List.length_set, hl']; exact r.len, S', o'.mut hd' eS' ⟨_, upd_same, RepK.monoX (fun _ n _ => n) lx (rs.put rv)⟩⟩
/-! ### methods that only read -/
def asK : D → Option (List (Key × D))
  | .dic ds => some ds
  | _ => none
theorem asK_inv {d : D} {es : List (Key × D)} (h : asK d = some es) : d = .dic es := by
  cases d <;> first | (cases h; done) | skip
  cases h; rfl
/-- d.get(k) -/
def mGet1 (m n : Ro → W Ex D) : Ro → W Ex D := fun ρ => W.bind (m ρ) fun x => W.got (asK x) fun kvs => W.bind (n ρ) fun y => W.got (keyOf y) fun k => W.ret ((lookK kvs k).getD .non)
def mGet2 (m n o : Ro → W Ex D) : Ro → W Ex D := fun ρ => W.bind (m ρ) fun x => W.got (asK x) fun kvs => W.bind (n ρ) fun y => W.got (keyOf y) fun k => W.bind (o ρ) fun z => W.ret ((lookK kvs k).getD z)
theorem RepK.getD {N : Addr → Prop} {H : Hp} {kvs : List (Key × D)} {ks : List (Key × V)} {k : Key} {d : D} {v : V} (r : RepK G N H kvs ks) (rv : Rep G N H d v) : Rep G N H ((lookK kvs k).getD d) ((valV ks k).getD v) := by
  have lk := r.look (k := k)
  rcases e : lookK kvs k with _ | d'
  · rw [e] at lk
    rw [show valV ks k = none from lk]
    exact rv
  · rw [e] at lk
    obtain ⟨w, hw, rw'⟩ := (lk : ∃ v, valV ks k = some v ∧ Rep G N H d' v)
    rw [hw]
    exact rw'
theorem de_get1 {o e : Expr} {m n : Ro → W Ex D} {apos cpos : Pos} (hu : X.A.units + 65 < cLine) (ho : DE G X Wx o m) (he : DE G X Wx e n) (mm : M1 X o "get" apos e cpos) : DE G X Wx (.Call (.Attribute o "get" apos) [e] [] cpos) (mGet1 m n) := by
  refine DE.imp (fun ρ => (ho.mono ρ).bind fun x => got_mono fun _ => (he.mono ρ).bind fun y => got_mono fun _ => W.Mono.ret) (pe_dget1 (by omega) ho.pe he.pe mm) fun N ρ σ H Q r q => ?_
  refine ho.go r q (fun x z => z) fun d v H1 z s1 r1 rr => ?_
  obtain ⟨kvs, hk, z⟩ := got_inv z
  rw [asK_inv hk] at r1
  obtain ⟨a, ks, rfl, na, ha, rs⟩ := r1
  refine ⟨a, rfl, .inl ⟨ks, ha⟩, he.go rr z (fun x z => z.step s1) fun y w H2 z s2 r2 _ => ?_⟩
  obtain ⟨k, hky, z⟩ := got_inv z
  have ha2 := (Le.of s2).rd (fun _ _ y => by cases y) ha
  have rs2 := RepK.mono (fun _ n _ => n) (Le.of s2) rs
  refine ⟨valV ks k, by rw [r2.key hky]; exact rs2.dget ha2, z _ H2 (s1.trans s2) (rs2.getD rfl)⟩
theorem de_get2 {o e f : Expr} {m n l : Ro → W Ex D} {apos cpos : Pos} (hu : X.A.units + 65 < cLine) (ho : DE G X Wx o m) (he : DE G X Wx e n) (hf : DE G X Wx f l) (mm : M2 X o "get" apos e f cpos) : DE G X Wx (.Call (.Attribute o "get" apos) [e, f] [] cpos) (mGet2 m n l) := by
  refine DE.imp (fun ρ => (ho.mono ρ).bind fun x => got_mono fun _ => (he.mono ρ).bind fun y => got_mono fun _ => (hf.mono ρ).bind fun _ => W.Mono.ret) (pe_dget2 (by omega) ho.pe he.pe hf.pe mm) fun N ρ σ H Q r q => ?_
  refine ho.go r q (fun x z => z) fun d v H1 z s1 r1 rr => ?_
  obtain ⟨kvs, hk, z⟩ := got_inv z
  rw [asK_inv hk] at r1
  obtain ⟨a, ks, rfl, na, ha, rs⟩ := r1
  refine ⟨a, rfl, .inl ⟨ks, ha⟩, he.go rr z (fun x z => z.step s1) fun y w H2 z s2 r2 rr2 => ?_⟩
  obtain ⟨k, hky, z⟩ := got_inv z
  refine hf.go rr2 z (fun x z => z.step (s1.trans s2)) fun dd u H3 z s3 r3 _ => ?_
  have ha2 := (Le.of (s2.trans s3)).rd (fun _ _ y => by cases y) ha
  have rs2 := RepK.mono (fun _ n _ => n) (Le.of (s2.trans s3)) rs
  refine ⟨valV ks k, by rw [r2.key hky]; exact rs2.dget ha2, z _ H3 ((s1.trans s2).trans s3) (rs2.getD (r3.sub fun _ y => y.step (s1.trans s2)))⟩
end
end Fb
end

section
set_option Elab.async false
set_option linter.all false
set_option maxRecDepth 100000
set_option maxHeartbeats 4000000
/-! a, b = x, y; a, b = e. -/
namespace Fb
open PySem PySem.Spec PyProof.Rows L2
abbrev Pm := Nat × List Nat × (Ro → W Ex (Bool × D))
def parN (ρ0 : En) : List Pm → List Nat → En → W (Ex × En) En
  | [], _, ρ => W.ret ρ
  | (i, fz, m) :: r, hid, ρ => W.bind (up ρ0 (m (wipeR (see fz ρ) hid))) fun x => parN ρ0 r (i :: hid) (asg fz i x ρ)
theorem parN_mono {ρ0 : En} : ∀ {ms : List Pm} (h : ∀ m ∈ ms, ∀ ρ, W.Mono (m.2.2 ρ)) (hid : List Nat) (ρ : En), W.Mono (parN ρ0 ms hid ρ)
  | [], _, _, _ => W.Mono.ret
  | (i, fz, m) :: r, h, hid, ρ => (Mono.up (h _ List.mem_cons_self _)).bind fun x => parN_mono (fun m hm => h m (List.mem_cons_of_mem _ hm)) _ _
def mPar (ms : List Pm) : En → WS := fun ρ => W.bind (parN ρ ms [] ρ) fun ρ' => W.ret (.nx, ρ')
section
variable {G : Wd} {X : Cx} {Wx : WX}
def slotsOf (ms : List Pm) (vs : List V) : List (Nat × V) := (ms.map (·.1)).zip vs
def tP (G : Wd) (Wx : WX) (ms : List Pm) : TA := fun σ H Q => ∃ H0 N0 ρ0 ws ρ hid, SRel G H0 N0 σ H ρ0 ∧ SRel G H0 N0 (setV σ ws) H ρ ∧ (∀ w ∈ ws, w.1 ∈ hid) ∧
  parN ρ0 ms hid ρ (fun ρ' => ∀ vs H', vs.length = ms.length → SRel G H0 N0 (setV σ (ws ++ slotsOf ms vs)) H' ρ' → Q vs H') (PoXS G H0 N0 Wx)
structure DPs (G : Wd) (X : Cx) (Wx : WX) (es : List Expr) (ms : List Pm) : Prop where
  pa : PA X es (tP G Wx ms)
  mono : ∀ m ∈ ms, ∀ ρ, W.Mono (m.2.2 ρ)
theorem dps_nil : DPs G X Wx [] [] := ⟨⟨fun pos pins s σ H Q I ⟨H0, N0, ρ0, ws, ρ, hid, r0, r, hw, q⟩ => pa_nil.run pos pins s σ H Q I (q [] H rfl (by simpa [slotsOf] using r))⟩, fun m hm => by cases hm⟩
theorem dps_cons {e : Expr} {es : List Expr} {m : Ro → W Ex (Bool × D)} {ms : List Pm} (i : Nat) (fz : List Nat) (h : DR G X Wx e m) (hs : DPs G X Wx es ms) (st : starEach (e :: es) X.env = (false, eval e X.env) :: starEach es X.env := by rfl) : DPs G X Wx (e :: es) ((i, fz, m) :: ms) := by
  refine ⟨⟨fun pos pins s σ H Q I q => (pa_cons h.pe hs.pa st).run pos pins s σ H Q I ?_⟩, fun m' hm => ?_⟩
  · obtain ⟨H0, N0, ρ0, ws, ρ, hid, r0, r, hw, q⟩ := q
    obtain ⟨S, o⟩ := r.own
    have er : ERel G (Out N0 H0 (cut fz S)) H σ (wipeR (see fz ρ) hid) := fun j d e => by
      obtain ⟨e1, hj⟩ := wipeR_some e
      obtain ⟨v, e2, r2⟩ := o.sees fz j d e1
      have e3 : (setV σ ws)[j]? = σ[j]? := setV_get fun w hh z => hj (by rw [← z]; exact hw w hh)
      exact ⟨v, e3 ▸ e2, r2⟩
    refine ⟨_, _, er, (h.mono _).run (fun x z v H1 s1 r1 f1 => ?_) (fun x z => ?_) q⟩
    · refine ⟨H0, N0, ρ0, ws ++ [(i, v)], _, i :: hid, r0.step s1, ⟨r.same.trans s1, by rw [asg_len, setV_len]; have := r.len; rw [setV_len] at this; exact this, ?_⟩, fun w hh => ?_, (parN_mono (fun m hm => hs.mono m hm) _ _).run (fun ρ' y vs H' hl r' => ?_) (fun _ y => y) z⟩
      · rw [setV_app]
        exact o.stored fz r.same r.len s1 r1 f1
      · rcases List.mem_append.mp hh with hh | hh
        · exact List.mem_cons_of_mem _ (hw w hh)
        · simp at hh; rw [hh]; exact List.mem_cons_self
      · refine y (v :: vs) H' (by simp [hl]) ?_
        have : ws ++ slotsOf ((i, fz, m) :: ms) (v :: vs) = ws ++ [(i, v)] ++ slotsOf ms vs := by simp [slotsOf]
        rw [this]
        exact r'
    · intro c dd H' s1 r1
      exact z σ c dd H' (r0.step s1) (r1.mono fun _ y => y.out r.same)
  · rcases List.mem_cons.mp hm with e | hm
    · rw [e]; exact h.mono
    · exact hs.mono m' hm
theorem mPar_mono {es : List Expr} {ms : List Pm} (h : DPs G X Wx es ms) (ρ : En) : W.Mono (mPar ms ρ) := (parN_mono h.mono _ _).bind fun _ => W.Mono.ret
theorem par_start {es : List Expr} {ms : List Pm} (h : DPs G X Wx es ms) {H0 H : Hp} {N0 : Addr → Prop} {ρ : En} {σ : Fb.St} {D' : Ends} {Q : List V → Hp → Prop} (r : SRel G H0 N0 σ H ρ) (q : mPar ms ρ (PoS G H0 N0 D') (PoXS G H0 N0 Wx))
    (hQ : ∀ vs H' ρ', vs.length = ms.length → SRel G H0 N0 (setV σ (slotsOf ms vs)) H' ρ' → (∀ H'', Same H' H'' → D'.nx (setV σ (slotsOf ms vs)) H'') → Q vs H') : tP G Wx ms σ H Q :=
  ⟨H0, N0, ρ, [], ρ, [], r, r, (fun w hw => by cases hw), (parN_mono h.mono _ _).run (fun ρ' y vs H' hl r' => hQ vs H' ρ' hl r' fun H'' s => y _ _ (r'.step s)) (fun _ y => y) q⟩
theorem len2 {α : Type} {vs : List α} (h : vs.length = 2) : ∃ a b, vs = [a, b] := by
  match vs, h with
  | [a, b], _ => exact ⟨a, b, rfl⟩
theorem len3 {α : Type} {vs : List α} (h : vs.length = 3) : ∃ a b c, vs = [a, b, c] := by
  match vs, h with
  | [a, b, c], _ => exact ⟨a, b, c, rfl⟩
/-- the stores are swapped -/
theorem ds_par2 {i j : Nat} {x y : Str} {a b : Expr} {f g : List Nat} {m n : Ro → W Ex (Bool × D)} {px py pt : Pos} {kt k2 pt2} {pos : Pos} (hc : X.calm = true) (hN : X.N.Nodup) (hi : X.N[i]? = some x) (hj : X.N[j]? = some y) (hij : i ≠ j)
    (hx : X.env.scope.names.lookup x = some .local) (hy : X.env.scope.names.lookup y = some .local) (h : DPs G X Wx [a, b] [(i, f, m), (j, g, n)])
    (hw : swappedStores [.Tuple [.Name x px, .Name y py] kt pt] (.Tuple [a, b] k2 pt2) X.env = pure (some [x, y]))
    (hs : swapsWithSole [.Tuple [.Name x px, .Name y py] kt pt] (.Tuple [a, b] k2 pt2) pos.line X.env = pure false := by rfl) :
    DS G X Wx (.Assign [.Tuple [.Name x px, .Name y py] kt pt] (.Tuple [a, b] k2 pt2) pos) (mPar [(i, f, m), (j, g, n)]) := by
  refine DS.imp (mPar_mono h) (ps_par hc hN hi hj hij hx hy h.pa hw hs) fun H0 N0 ρ σ H D' r q => ?_
  refine par_start h r q fun vs H' ρ' hl r' k => ?_
  obtain ⟨v, w, rfl⟩ := len2 hl
  exact ⟨v, w, rfl, k H' (Same.refl H')⟩
theorem ds_par3 {i j l : Nat} {x y z : Str} {a b c : Expr} {f g e : List Nat} {m n o : Ro → W Ex (Bool × D)} {px py pz pt pos : Pos} {kt k2 pt2} (hc : X.calm = true) (hN : X.N.Nodup) (hi : X.N[i]? = some x) (hj : X.N[j]? = some y) (hl : X.N[l]? = some z) (hij : i ≠ j) (hil : i ≠ l) (hjl : j ≠ l)
    (hx : X.env.scope.names.lookup x = some .local) (hy : X.env.scope.names.lookup y = some .local) (hz : X.env.scope.names.lookup z = some .local) (h : DPs G X Wx [a, b, c] [(i, f, m), (j, g, n), (l, e, o)])
    (hw : swappedStores [.Tuple [.Name x px, .Name y py, .Name z pz] kt pt] (.Tuple [a, b, c] k2 pt2) X.env = pure (some [x, y, z]))
    (hs : swapsWithSole [.Tuple [.Name x px, .Name y py, .Name z pz] kt pt] (.Tuple [a, b, c] k2 pt2) pos.line X.env = pure false := by rfl) :
    DS G X Wx (.Assign [.Tuple [.Name x px, .Name y py, .Name z pz] kt pt] (.Tuple [a, b, c] k2 pt2) pos) (mPar [(i, f, m), (j, g, n), (l, e, o)]) := by
  refine DS.imp (mPar_mono h) (ps_par3 hc hN hi hj hl hij hil hjl hx hy hz h.pa hw hs) fun H0 N0 ρ σ H D' r q => ?_
  refine par_start h r q fun vs H' ρ' hl r' k => ?_
  obtain ⟨v, w, u, rfl⟩ := len3 hl
  exact ⟨v, w, u, rfl, k H' (Same.refl H')⟩
/-- they are not: the tuple is made, and unpacked -/
structure NG (X : Cx) (tg : List Expr) (is : List Nat) (g : TGs) : Prop where
  pg : PGs X tg g
  st : ∀ (vs : List V) (σ : Fb.St) (H : Hp) (Q : Fb.St → Hp → Prop), vs.length = is.length → Q (setV σ (is.zip vs)) H → g vs σ H Q
theorem ng_nil : NG X [] [] gNil := ⟨pgs_nil, fun vs σ H Q h q => by
  cases vs with
  | nil => exact ⟨rfl, q⟩
  | cons a b => cases h⟩
theorem ng_cons {x : Str} {p : Pos} {es : List Expr} {i : Nat} {is : List Nat} {g : TGs} (hN : X.N.Nodup) (hi : X.N[i]? = some x) (hx : Loc X.env.scope x) (h : NG X es is g) (hf : X.fn x = true ∨ X.env.scope.names.lookup x = some .local := by first | exact .inl rfl | exact .inr rfl | assumption)
    (hs : (assignEach (.Name x p :: es) X.env).map (·.2) = assign (.Name x p) X.env :: (assignEach es X.env).map (·.2) := by rfl) : NG X (.Name x p :: es) (i :: is) (gCons (gName i) g) := ⟨pgs_cons (pg_name hN hi hx hf) h.pg hs, fun vs σ H Q hl q => by
  cases vs with
  | nil => cases hl
  | cons a b => exact ⟨a, b, rfl, h.st b _ H Q (by simpa using hl) q⟩⟩
theorem ds_parT {es tgs : List Expr} {ms : List Pm} {g : TGs} {k k2 n : Nat} {pt pt2 pos : Pos} (hc : X.calm = true) (h : DPs G X Wx es ms) (hg : NG X tgs (ms.map (·.1)) g) (hz : ms.length ≤ 100) (hnn : ms.length = n := by rfl)
    (hn : (assignEach tgs X.env).length = n := by rfl) (hst : (assignEach tgs X.env).findIdx? (·.1) = none := by rfl)
    (hs : swapsWithSole [.Tuple tgs k pt] (.Tuple es k2 pt2) pos.line X.env = pure false := by rfl) (hw : swappedStores [.Tuple tgs k pt] (.Tuple es k2 pt2) X.env = pure none := by rfl)
    (h1 : (assignEach [.Tuple tgs k pt] X.env).map (·.2) = [assign (.Tuple tgs k pt) X.env] := by rfl) : DS G X Wx (.Assign [.Tuple tgs k pt] (.Tuple es k2 pt2) pos) (mPar ms) := by
  refine DS.imp (mPar_mono h) (ps_asg (pe_tup h.pa) (pg_tup hc hg.pg hn hst) hs hw h1) fun H0 N0 ρ σ H D' r q => ?_
  refine par_start h r q fun vs H' ρ' hl r' kk => ?_
  refine ⟨by rw [hl, sizeLine_eq]; omega, fun p hp => ?_⟩
  have s : Same H' (upd H' p (.tup vs)) := Same.updN (Same.refl H') hp
  refine ⟨p, vs, rfl, .inl (.inl upd_same), hl.trans hnn, hg.st vs σ _ _ (by rw [List.length_map]; exact hl) (kk _ s)⟩
/-! ### a, b = e -/
def pSeq (n : Nat) (q : List D → Option (List (Nat × D))) : D → Option (List (Nat × D))
  | .tup ds => if ds.length = n then q ds else none
  | .lst ds => if ds.length = n then q ds else none
  | _ => none
def gTL (K : PySem.W.Frag) (n : Nat) (t : TGs) : TG := fun v σ H Q => ∃ a xs, v = .ref a ∧ (SqL K H a xs ∨ SqT K H a xs) ∧ xs.length = n ∧ t xs σ H Q
theorem pg_tl {es : List Expr} {k : Nat} {t : TGs} {n : Nat} {pos : Pos} (hc : X.calm = true) (h : PGs X es t)
    (hn : (assignEach es X.env).length = n := by rfl) (hst : (assignEach es X.env).findIdx? (·.1) = none := by rfl) : PG X (.Tuple es k pos) (gTL X.K n t) := by
  refine ⟨fun pins s σ H v u Q I r hw => ?_⟩
  obtain ⟨a, xs, e, hq | hq, hl, hw⟩ := hw
  · exact (pg_unl hc h hn hst).run pins s σ H v u Q I r ⟨a, xs, e, hq, hl, hw⟩
  · exact (pg_tup hc h hn hst).run pins s σ H v u Q I r ⟨a, xs, e, hq, hl, hw⟩
theorem dg_seq {es : List Expr} {k n : Nat} {gs : TGs} {q : List D → Option (List (Nat × D))} {a : List Nat} {pos : Pos} (Z : X.K = G.K) (hc : X.calm = true) (h : DGs G X es gs q a) (hn : (assignEach es X.env).length = n := by rfl) (hst : (assignEach es X.env).findIdx? (·.1) = none := by rfl) :
    DG G X (.Tuple es k pos) (gTL G.K n gs) (pSeq n q) a := by
  rw [← Z]
  refine ⟨pg_tl hc h.pg hn hst, fun N H d v bs σ Q r e hQ => ?_, fun d bs e b hb => ?_⟩
  · cases d <;> first | (cases e; done) | skip
    all_goals
      rename_i ds
      have e : (if ds.length = n then q ds else none) = some bs := e
      by_cases hl : ds.length = n
      · rw [if_pos hl] at e
        first
          | (obtain ⟨t, vs, ev, ht, rs⟩ := r
             exact ⟨t, vs, ev, .inr (Z ▸ ht.sq), rs.length.trans hl, h.st N H ds vs bs σ Q rs e hQ⟩)
          | (obtain ⟨t, vs, ev, _, ht, rs⟩ := r
             exact ⟨t, vs, ev, .inl (.of ht), rs.length.trans hl, h.st N H ds vs bs σ Q rs e hQ⟩)
      · rw [if_neg hl] at e; cases e
  · cases d <;> first | (cases e; done) | skip
    all_goals
      rename_i ds
      have e : (if ds.length = n then q ds else none) = some bs := e
      by_cases hl : ds.length = n
      · rw [if_pos hl] at e; exact h.sl _ _ e _ hb
      · rw [if_neg hl] at e; cases e
def mUnp (fz : List Nat) (m : Ro → W Ex D) (p : D → Option (List (Nat × D))) : En → WS := fun ρ => W.bind (up ρ (m (see fz ρ))) fun d => W.got (p d) fun bs => W.ret (.nx, setE (if imms (bs.map (·.2)) = true then ρ else frz fz ρ) bs)
theorem RepB.imm {N N' : Addr → Prop} {H : Hp} {bs : List (Nat × D)} {ws : List (Nat × V)} (i : imms (bs.map (·.2)) = true) (h : RepB G N H bs ws) : RepB G N' H bs ws := by
  induction h with
  | nil => exact .nil
  | cons h t ih =>
    rw [List.map_cons] at i
    unfold imms at i
    exact .cons ⟨h.1, h.2.imm (and_l i)⟩ (ih (and_r i))
/-- items are stored that lie out -/
theorem OwnOk.setE {H0 H : Hp} {N0 N : Addr → Prop} {bs : List (Nat × D)} {ws : List (Nat × V)} (h : RepB G N H bs ws) : ∀ {S : Nat → Option Addr} {σ : Fb.St} {ρ : En}, (∀ a, N a → Out N0 H0 S a) → OwnOk G H0 N0 S σ H ρ → ρ.length = σ.length → ∃ S', OwnOk G H0 N0 S' (setV σ ws) H (Fb.setE ρ bs) := by
  induction h with
  | nil => exact fun _ o _ => ⟨_, o⟩
  | @cons b w bs ws h t ih =>
    intro S σ ρ hN o hl
    obtain ⟨i, d⟩ := b
    obtain ⟨j, v⟩ := w
    obtain ⟨e, r⟩ := h
    obtain rfl : i = j := e
    refine ih (σ := σ.set i (some v)) (ρ := ρ.set i (some (false, d))) (fun a na => ?_) (o.setS hl (r.sub hN)) (by rw [List.length_set, List.length_set]; exact hl)
    refine ⟨(hN a na).1, fun k z => ?_⟩
    rcases put_some z with ⟨_, y⟩ | ⟨_, y⟩
    · cases y
    · exact (hN a na).2 k y
theorem ds_unp {tg e : Expr} {m : Ro → W Ex D} {g : TG} {p : D → Option (List (Nat × D))} {sl : List Nat} {pos : Pos} (fz : List Nat) (hg : DG G X tg g p sl) (he : DE G X Wx e m) (hs : swapsWithSole [tg] e pos.line X.env = pure false := by rfl) (hw : swappedStores [tg] e X.env = pure none := by rfl)
    (h1 : (assignEach [tg] X.env).map (·.2) = [assign tg X.env] := by rfl) : DS G X Wx (.Assign [tg] e pos) (mUnp fz m p) := by
  refine DS.imp (fun ρ => (Mono.up (he.mono _)).bind fun d => got_mono fun _ => W.Mono.ret) (ps_asg he.pe hg.pg hs hw h1) fun H0 N0 ρ σ H D' r q => ?_
  obtain ⟨S, o⟩ := r.own
  refine he.inF r.same r.len o fz q fun d v H1 z s1 r1 => ?_
  obtain ⟨bs, hb, z⟩ := got_inv z
  refine hg.st _ H1 d v bs σ _ r1 hb fun ws rb => ?_
  by_cases hi : imms (bs.map (·.2)) = true
  · rw [if_pos hi] at z
    exact z _ _ ⟨r.same.trans s1, by rw [setE_len, setV_len]; exact r.len, OwnOk.setE (rb.imm (N' := Out N0 H0 S) hi) (fun _ n => n) (o.same s1) r.len⟩
  · rw [if_neg hi] at z
    refine z _ _ ⟨r.same.trans s1, by rw [setE_len, setV_len, frz_len]; exact r.len, OwnOk.setE rb (fun c hc => ?_) ((o.frz fz).same s1) (frz_len.trans r.len)⟩
    rcases hc with hc | hc
    · exact hc
    · exact ⟨.inr (r.same.free hc), fun j w => (o.new j c (cut_some w).1).2 hc⟩
end
end Fb
end

section
set_option Elab.async false
set_option linter.all false
set_option maxRecDepth 100000
set_option maxHeartbeats 4000000
/-! Own classes: properties, methods, new instances. -/
namespace Fb
open PySem PySem.Spec PyProof.Rows L2
def asIns (c : Str) : D → Option (List (Str × D))
  | .ins c' fs => if c' = c then some fs else none
  | _ => none
theorem asIns_inv {c : Str} {d : D} {fs : List (Str × D)} (h : asIns c d = some fs) : d = .ins c fs := by
  cases d <;> first | (cases h; done) | skip
  rename_i c' fs'
  have h : (if c' = c then some fs' else none) = some fs := h
  by_cases e : c' = c
  · rw [if_pos e] at h; cases h; rw [e]
  · rw [if_neg e] at h; cases h
theorem RepF.lookN {G : Wd} {N : Addr → Prop} {H : Hp} {f : Str} : ∀ {fs : List (Str × D)} {gs : List (Str × V)}, RepF G N H fs gs → fs.lookup f = none → gs.lookup f = none
  | [], _, h, e => by rw [show _ = [] from h]; rfl
  | (k, d') :: r, _, ⟨w, ws, ew, rd, rs⟩, e => by
    subst ew
    rw [List.lookup_cons] at e ⊢
    cases hb : f == k with
    | true => rw [hb] at e; cases e
    | false => rw [hb] at e; exact RepF.lookN rs e
theorem cx_never {P : Program} {w : World} {outer : List Env} {H : Hp} {s : Shared} {u : Value} {s' : Shared} (h : L2.CX P w outer H s (fun _ _ _ => False) u s') : False := by
  obtain ⟨_, _, _, _, _, _, _, _, _, _, _, _, h⟩ := h
  exact h
section
variable {P : Program} {w : World} {G : Wd} {base : Heap} {k j : Nat} {X : Cx} {Wx : WX}
/-! ### properties -/
def mProp (c : Str) (sem : List D → Rt) (m : Ro → W Ex D) : Ro → W Ex (Bool × D) := fun ρ => W.bind (m ρ) fun d => W.got (asIns c d) fun _ => W.calm (sem [d])
theorem dr_prop {e : Expr} {f c : Str} {C p g : Addr} {fd : FuncData} {ps : List Str} {sem : List D → Rt} {m : Ro → W Ex D} {pos : Pos} (Z : Cz P w G base k X Wx) (T : ClsD G c C) (hp : PropOf G.K C f p g) (F : FnD P w G base j g fd ps sem) (hj : j + 1 ≤ k) (hb : Binds G.K fd ps []) (hps : ps.length = 1)
    (he : DE G X Wx e m) (hab : attributeBase e f X.env (eval e X.env) = eval e X.env := by rfl) : DR G X Wx (.Attribute e f pos) (mProp c sem m) := by
  obtain ⟨rfl, rfl, hK, hmg, rfl, hr, hg, tk⟩ := Z
  refine ⟨⟨fun pins s σ H Q I ⟨N, ρ, rr, q⟩ => ?_⟩, fun ρ => (he.mono ρ).bind fun d => got_mono fun _ => (F.mono _).calm⟩
  refine attr_of hab (thn (he.pe.run pins s σ H (fun x H1 => ∃ d a dx gs fs, x = .ref a ∧ d = .ins c fs ∧ H1 a = some (.ins C dx gs) ∧ Rep G (Fr N H) H1 d x ∧ Same H H1 ∧ sem [d] (PoR G N H Q) (fun _ => False)) I ⟨N, ρ, rr, (he.mono ρ).run (fun d z v H1 s1 r1 => ?_) (fun x z => z) q⟩) fun u s1 ⟨x, H1, I1, rx, d, a, dx, gs, fs, ex, ed, ea, r1, s1', z⟩ => ?_)
  · obtain ⟨fs, hd, z⟩ := got_inv z
    have hd' := asIns_inv hd
    obtain ⟨a, C', dx, gs, ev, hm, ha, rf⟩ := (show Rep G (Fr N H) H1 (.ins c fs) v from hd' ▸ r1)
    rw [T.mg] at hm
    cases hm
    exact ⟨d, a, dx, gs, fs, ev, hd', ha, r1, s1, z⟩
  · subst ex
    obtain rfl : u = Value.ref a := rx
    obtain ⟨mA, O, _, _, _, _⟩ := ins_get I1.hok ea
    obtain ⟨od, J, _⟩ := O.look
    obtain ⟨rest, hrec⟩ := hp.rec_
    have I2 := I1.tok (s1.toks + 1)
    have cl : Cls X.K C := hK ▸ T.cl
    have hc : (PySem.W.clsIn X.K C).isSome = true := by
      obtain ⟨cd, hc, _⟩ := PySem.W.any_some cl.hd
      rw [hc]
      rfl
    refine PySem.W.get_bind I1.kIn J (PySem.W.plainGet_of (cl.get f)).1 (PySem.W.findObj_data hc (hK ▸ hp.at_) (hK ▸ hp.get) (hK ▸ hp.tak)) (PySem.W.plainGet_of (cl.get f)).2 (wpAny_call (PySem.W.prop_get (s := { s1 with toks := s1.toks + 1 }) I1.kIn (hK ▸ hrec) ?_))
    have e0 : Env0 X.prog X.w G.K G.mg X.base X.A.in1 X.stack { s1 with toks := s1.toks + 1 } H1 := by rw [← hK, ← hmg]; exact I2.env0.in1
    have hl : ([Value.ref a] ++ []).length = ps.length := hps.symm
    have kin : G.K.In ({ s1 with toks := s1.toks + 1 } : Shared).heap := hK ▸ I2.kIn
    refine codeAny_mono (F.run X.A.in1 X.stack _ H1 ⟨[.ref a], []⟩ [.ref a] [.ref a] [d] (Fr N H) Q (fun _ _ _ => False) ((hr.mono hj).in1) hg e0 (hb _ [.ref a] kin hl) (.cons rfl .nil) (.one r1) hps.symm ((F.mono _).run (fun _ y => y.step s1') (fun _ z => z.elim) z)) fun r s' hq => ?_
    cases r with
    | error er => exact False.elim (cx_never hq)
    | ok fl =>
      cases fl with
      | ret u =>
        obtain ⟨v, H', I3, rv, q3⟩ := I2.after hq
        show wpAny _ _ (handedOut u) _ _ _
        rw [PySem.W.handedOut_of (handed_of rv)]
        exact wpAny_pure ⟨v, H', I3, rv, q3⟩
      | next => exact False.elim hq
      | brk => exact False.elim hq
      | cont => exact False.elim hq
/-! ### methods -/
def mMeth (c : Str) (mn : Str) (n : Nat) (sem : List D → Rt) (dds : List D) (m : Ro → W Ex D) (a : Ro → W Ex (List D)) : Ro → W Ex (Bool × D) := fun ρ => W.bind (m ρ) fun d => W.got (asIns c d) fun fs => if fs.lookup mn = none then W.bind (a ρ) fun ds => if (d :: (ds ++ dds)).length = n then sem (d :: (ds ++ dds)) else W.fail else W.fail
theorem mMeth_mono {c mn : Str} {n : Nat} {sem : List D → Rt} {dds : List D} {m : Ro → W Ex D} {a : Ro → W Ex (List D)} (hs : ∀ ds, W.Mono (sem ds)) (hm : ∀ ρ, W.Mono (m ρ)) (ha : ∀ ρ, W.Mono (a ρ)) (ρ : Ro) : W.Mono (mMeth c mn n sem dds m a ρ) :=
  (hm ρ).bind fun d => got_mono fun fs => ite_mono ((ha ρ).bind fun ds => ite_mono (hs _) W.Mono.fail) W.Mono.fail
/-- o.m(e, ..) -/
theorem dr_meth {o e : Expr} {es : List Expr} {mn c : Str} {C f : Addr} {fd : FuncData} {ps : List Str} {sem : List D → Rt} {m : Ro → W Ex D} {a : Ro → W Ex (List D)} {apos pos : Pos} {dvs : List V} {dus : List Value} {dds : List D} {pl : Sem Bool} (Z : Cz P w G base k X Wx) (T : ClsD G c C) (hm : Meth G.K C mn f) (F : FnD P w G base j f fd ps sem) (hj : j ≤ k)
    (hb : Binds G.K fd ps dus) (hd : Vals dvs dus) (hr : ∀ N H, Reps G N H dds dvs) (ho : DE G X Wx o m) (ha : DA G X Wx (e :: es) a) (hst : starEach (e :: es) X.env = (false, eval e X.env) :: starEach es X.env := by rfl) (hpl : (backTo pos (starEach es X.env)).any (·.1) = false := by rfl)
    (ht : eval (.Call (.Attribute o mn apos) (e :: es) [] pos) X.env = (do
      let ov ← eval o X.env
      standAt apos.atName
      let (f, first) ← holding [ov] (getMethod ov mn pl)
      callWith pos f first (backTo pos (starEach (e :: es) X.env)) (backToKw pos (keywordEach [] X.env))) := by rfl) : DR G X Wx (.Call (.Attribute o mn apos) (e :: es) [] pos) (mMeth c mn ps.length sem dds m a) := by
  have Z0 := Z
  obtain ⟨rfl, rfl, hK, hmg, rfl, hrm, hg, tk⟩ := Z
  refine ⟨⟨fun pins s σ H Q I ⟨N, ρ, rr, q⟩ => ?_⟩, mMeth_mono F.mono ho.mono ha.mono⟩
  refine PySem.W.methodCall_KW (pl := pl) (thn (ho.pe.run pins s σ H (fun x H1 => ∃ d a0 dx gs fs, x = .ref a0 ∧ d = .ins c fs ∧ H1 a0 = some (.ins C dx gs) ∧ gs.lookup mn = none ∧ Rep G (Fr N H) H1 d x ∧ Same H H1 ∧ (W.bind (a ρ) fun ds => if (d :: (ds ++ dds)).length = ps.length then sem (d :: (ds ++ dds)) else W.fail) (PoR G N H Q) (PoX G N Wx H σ)) I ⟨N, ρ, rr, (ho.mono ρ).run (fun d z v H1 s1 r1 => ?_) (fun x z => z) q⟩) fun u s1 ⟨x, H1, I1, rx, d, a0, dx, gs, fs, ex, ed, ea, el, r1, s1', z⟩ => ?_) ht
  · obtain ⟨fs, hd', z⟩ := got_inv z
    have hd' := asIns_inv hd'
    obtain ⟨hl, z⟩ := ite_ret z
    obtain ⟨a0, C', dx, gs, ev, hmm, ha0, rf⟩ := (show Rep G (Fr N H) H1 (.ins c fs) v from hd' ▸ r1)
    rw [T.mg] at hmm
    cases hmm
    exact ⟨d, a0, dx, gs, fs, ev, hd', ha0, rf.lookN hl, r1, s1, z⟩
  · subst ex
    obtain rfl : u = Value.ref a0 := rx
    refine getmeth_ok I1 ea (hK ▸ T.cl) (hK ▸ hm) el ?_
    have go := ha.pa.run pos pins s1 σ H1 (fun vs H2 => ∃ ds, Reps G (Fr N H) H2 ds vs ∧ (d :: (ds ++ dds)).length = ps.length ∧ Same H1 H2 ∧ sem (d :: (ds ++ dds)) (PoR G N H Q) (PoX G N Wx H σ)) I1 ⟨N, ρ, rr.same s1', (ha.mono ρ).run (fun ds z vs H2 s2 r2 => by
      by_cases hl : (d :: (ds ++ dds)).length = ps.length
      · exact ⟨ds, r2.sub fun _ y => y.step s1', hl, s2, by simpa only [if_pos hl] using z⟩
      · have z' : (W.fail : Rt) (PoR G N H Q) (PoX G N Wx H σ) := by simpa only [if_neg hl] using z
        exact z'.elim) (fun x z => z.step s1') z⟩
    refine PySem.W.callWith_K (first := [.ref a0]) (h₀ := X.base) I.ok.mod.kin (hK ▸ hm.kp) (thn go fun us s2 ⟨vs, H2, I2, r, q2⟩ => ⟨I2.kIn, ?_⟩) hst hpl
    obtain ⟨ds, r2, hl, s2', z⟩ := q2
    exact run_fnd (ds := d :: ds) (vs := .ref a0 :: vs) (us := .ref a0 :: us) Z0 F hj (hK ▸ hb) hd I2 (.cons rfl r) (.cons (r1.same s2') (r2.app (hr _ _))) hl ((F.mono _).run (fun _ y => y.step (s1'.trans s2')) (fun _ y => y.step2 (s1'.trans s2')) z)
/-! ### new instances -/
def PoF (G : Wd) (N : Addr → Prop) (H : Hp) (Q : VK) (x C dx : Addr) (fs : List (Str × D)) : Prop := ∀ H' gs, (∀ a o, a ≠ x → H a = some o → H' a = some o) → H' x = some (.ins C dx gs) → RepF G (Fr N H) H' fs gs → Q .non H'
abbrev If := W Ex (List (Str × D))
/-- the def at f, an __init__ of the class at C: the attributes that it stores -/
structure FnI (P : Program) (w : World) (G : Wd) (base : Heap) (k : Nat) (f : Addr) (fd : FuncData) (ps : List Str) (C : Addr) (sem : List D → If) : Prop where
  run : ∀ (A : Around) (outer : List Env) (s : Shared) (H : Hp) (args : Args) (us : List Value) (vs : List V) (ds : List D) (N : Addr → Prop) (x dx : Addr) (Q : VK) (E : XK), Room k A → A.guards = some [] → Env0 P w G.K G.mg base A outer s H → H x = some (.ins C dx []) →
    BindsTo s fd args (ps.zip (.ref x :: us)) → Vals vs us → Reps G N H ds vs → vs.length + 1 = ps.length →
    sem ds (PoF G N H Q x C dx) (fun x => ∀ c dd H', Same H H' → XRep G (Fr N H) H' x c dd → E c dd H') → codeAny (model P w) A (.call (.ref f) args) (CR (CX P w) outer P w H s Q E) s
  mono : ∀ ds, W.Mono (sem ds)
theorem make_guards {A : Around} {C : Addr} {us : List Value} {kw : List (Str × Value)} : (A.under (.builtin "type.__call__" ⟨.ref C :: us, kw⟩)).guards = A.guards := by
  first | rfl | simp [Around.under, Code.weight, Code.isCreation, Code.isGuard, Code.isCaller, Code.frames, Code.isFrame, guardIds]
theorem run_mk {pins : List (Addr × Obj)} {σ : Fb.St} {H : Hp} {s : Shared} {Q : VK} {us : List Value} {vs : List V} {ds dds : List D} {N : Addr → Prop} {dvs : List V} {dus : List Value} {C f : Addr} {c : Str} {fd : FuncData} {ps : List Str} {sem : List D → If} (Z : Cz P w G base k X Wx) (T : G.mg c = some (.ref C)) (M : Mk G.K C f) (F : FnI P w G base j f fd ps C sem) (hj : j + 1 ≤ k)
    (hb : Binds G.K fd ps dus) (hd : Vals dvs dus) (I : Inv X pins σ H s) (r : Vals vs us) (rd : Reps G N H (ds ++ dds) (vs ++ dvs)) (hl : (ds ++ dds).length + 1 = ps.length) (h : sem (ds ++ dds) (fun fs => PoR G N H Q (false, .ins c fs)) (PoX G N Wx H σ)) :
    wpAny (model X.prog X.w) X.A (call (.ref C) us) (EP X pins σ Q) X.xe s := by
  obtain ⟨rfl, rfl, hK, hmg, rfl, hr, hg, tk⟩ := Z
  have nx : H (s.heap.objs.size + 1) = none := I.hok.fresh (Nat.le_succ _)
  have nd : H s.heap.objs.size = none := I.hok.fresh (Nat.le_refl _)
  have I2 := Inv.made (C := C) I
  have s1 : Same H (upd (upd H s.heap.objs.size (.own (s.heap.objs.size + 1))) (s.heap.objs.size + 1) (.ins C s.heap.objs.size [])) := fun b o e => by
    rw [upd_ne (ne_of_none e nx), upd_ne (ne_of_none e nd)]; exact e
  have r2 : Vals (vs ++ dvs) (us ++ dus) := r.append hd
  have lv : (vs ++ dvs).length + 1 = ps.length := by rw [rd.length]; exact hl
  have lu : (Value.ref (s.heap.objs.size + 1) :: us ++ dus).length = ps.length := by
    have e := r2.length
    show (us ++ dus).length + 1 = _
    omega
  have e0 := I2.env0
  rw [hK, hmg] at e0
  have kin := I2.kIn
  rw [hK] at kin
  refine wpAny_call (make_map (f := f) I.kIn (hK ▸ M.makes) (hK ▸ M.init) (beq_iff_eq.mp (hK ▸ M.fn)) (codeAny_mono (F.run _ X.stack _ _ ⟨Value.ref (s.heap.objs.size + 1) :: us, []⟩ (us ++ dus) (vs ++ dvs) (ds ++ dds) N (s.heap.objs.size + 1) s.heap.objs.size (fun v H2 => v = .non ∧ Q (.ref (s.heap.objs.size + 1)) H2) (fun c dd H' => Wx c dd σ H')
    ((hr.mono hj).make C us []) (make_guards.trans hg) (e0.make C us []) upd_same (hb _ (Value.ref (s.heap.objs.size + 1) :: us) kin lu) r2 (rd.same s1) lv ((F.mono _).run (fun fs y H' gs st hx rf => ⟨rfl, ?_⟩) (fun x y c dd H' s' x' => ?_) h)) fun r s' hq' => ?_))
  · refine y (.ref (s.heap.objs.size + 1)) H' (fun b o e => st b o (ne_of_none e nx) (s1 b o e)) ⟨_, C, _, gs, rfl, T, hx, RepF.mono (fun _ n _ => n.step s1) (Le.of (Same.refl H')) rf⟩ fun z => nomatch z
  · exact y c dd H' (s1.trans s') (x'.mono fun _ z => z.step s1)
  · cases r with
    | error e => exact tk e s' (XE.of_call (E := fun c dd H' => Wx c dd σ H') I2 (fun cls d H' h => h) hq')
    | ok fl =>
      cases fl with
      | ret u =>
        obtain ⟨v, H', I3, rv, ev, q3⟩ := I2.after hq'
        subst ev
        exact ⟨rv, ⟨V.ref (s.heap.objs.size + 1), H', I3, rfl, q3⟩⟩
      | next => exact False.elim hq'
      | brk => exact False.elim hq'
      | cont => exact False.elim hq'
def mMake (c : Str) (n : Nat) (sem : List D → If) (dds : List D) (a : Ro → W Ex (List D)) : Ro → W Ex (Bool × D) := fun ρ => W.bind (a ρ) fun ds => if (ds ++ dds).length + 1 = n then W.bind (sem (ds ++ dds)) fun fs => W.ret (false, .ins c fs) else W.fail
theorem mMake_mono {c : Str} {n : Nat} {sem : List D → If} {dds : List D} {a : Ro → W Ex (List D)} (hs : ∀ ds, W.Mono (sem ds)) (ha : ∀ ρ, W.Mono (a ρ)) (ρ : Ro) : W.Mono (mMake c n sem dds a ρ) := (ha ρ).bind fun ds => ite_mono ((hs _).bind fun _ => W.Mono.ret) W.Mono.fail
/-- C(e, ..) -/
theorem dr_make {c : Str} {e : Expr} {es : List Expr} {C f : Addr} {fd : FuncData} {ps : List Str} {sem : List D → If} {a : Ro → W Ex (List D)} {p pos : Pos} {dvs : List V} {dus : List Value} {dds : List D} (Z : Cz P w G base k X Wx) (T : G.mg c = some (.ref C)) (M : Mk G.K C f) (F : FnI P w G base j f fd ps C sem) (hj : j + 1 ≤ k)
    (hb : Binds G.K fd ps dus) (hd : Vals dvs dus) (hrd : ∀ N H, Reps G N H dds dvs) (hg : Gl X c) (ha : DA G X Wx (e :: es) a) (hdb : (c == ("__debug__" : Str)) = false := by decide) (he : starEach (e :: es) X.env = (false, eval e X.env) :: starEach es X.env := by rfl) (hpl : (backTo pos (starEach es X.env)).any (·.1) = false := by rfl) :
    DR G X Wx (.Call (.Name c p) (e :: es) [] pos) (mMake c ps.length sem dds a) := by
  refine ⟨⟨fun pins s σ H Q I ⟨N, ρ, rr, q⟩ => ?_⟩, mMake_mono F.mono ha.mono⟩
  refine wpAny_Call_Name_kw (ld_glob I hg (Z.mg ▸ T) ?_ hdb)
  have go := ha.pa.run pos pins s σ H (fun vs H1 => ∃ ds, Reps G (Fr N H) H1 ds vs ∧ (ds ++ dds).length + 1 = ps.length ∧ Same H H1 ∧ sem (ds ++ dds) (fun fs => PoR G N H Q (false, .ins c fs)) (PoX G N Wx H σ)) I ⟨N, ρ, rr, (ha.mono ρ).run (fun ds z vs H1 s1 r1 => by
    by_cases hl : (ds ++ dds).length + 1 = ps.length
    · have z' : (W.bind (sem (ds ++ dds)) fun fs => W.ret (false, D.ins c fs)) (PoR G N H Q) (PoX G N Wx H σ) := by simpa only [if_pos hl] using z
      exact ⟨ds, r1, hl, s1, z'⟩
    · have z' : (W.fail : Rt) (PoR G N H Q) (PoX G N Wx H σ) := by simpa only [if_neg hl] using z
      exact z'.elim) (fun x z => z) q⟩
  refine PySem.W.callWith_K (h₀ := X.base) I.ok.mod.kin (Z.K ▸ M.kp) (thn go fun us s1 ⟨vs, H1, I1, r, q1⟩ => ⟨I1.kIn, ?_⟩) he hpl
  obtain ⟨ds, r1, hl, s2, z⟩ := q1
  exact run_mk Z T M F hj hb hd I1 r (r1.app (hrd _ _)) hl ((F.mono _).run (fun _ y => PoR.step (h := y) s2) (fun _ y => y.step2 s2) z)
end
end Fb
end

section
set_option Elab.async false
set_option linter.all false
set_option maxRecDepth 100000
set_option maxHeartbeats 4000000
/-! __init__ of an own class: its stores come last. -/
namespace Fb
open PySem PySem.Spec PyProof.Rows L2
mutual
/-- no instance is in it -/
def noins : D → Bool
  | .tup xs => noinss xs
  | .lst xs => noinss xs
  | .dic kvs => noinsK kvs
  | .ins _ _ => false
  | .non => true
  | .bl _ => true
  | .int _ => true
  | .str _ => true
  | .box _ => true
  | .ty _ => true
  | .cls _ => true
  | .raw _ => true
  | .scr _ => true
def noinss : List D → Bool
  | [] => true
  | x :: xs => noins x && noinss xs
def noinsK : List (Key × D) → Bool
  | [] => true
  | (_, x) :: xs => noins x && noinsK xs
end
section
variable {G : Wd} {N : Addr → Prop} {H H' : Hp} {x C dx : Addr} {gs : List (Str × V)}
theorem ne_ins {a : Addr} {o : HO} (hx : H x = some (.ins C dx gs)) (h : H a = some o) (k : ∀ C dx gs, o ≠ .ins C dx gs) : a ≠ x := fun e => by rw [e, hx] at h; cases h; exact k _ _ _ rfl
theorem ScrAt.chI {K : PySem.W.Frag} {a : Addr} {ns : List Int} (hx : H x = some (.ins C dx gs)) (hs : ∀ a, a ≠ x → H' a = H a) (r : ScrAt K H a ns) : ScrAt K H' a ns := r.elim (fun ⟨o, e⟩ => .inl ⟨o, (hs a (ne_ins hx e fun _ _ _ y => nomatch y)).trans e⟩) .inr
mutual
theorem Rep.chI (hx : H x = some (.ins C dx gs)) (hs : ∀ a, a ≠ x → H' a = H a) : ∀ {d : D} {v : V}, noins d = true → Rep G N H d v → Rep G (fun a => N a ∧ a ≠ x) H' d v
  | .non, _, _, h => h
  | .bl _, _, _, h => h
  | .int _, _, _, h => h
  | .str _, _, _, h => h
  | .tup ds, _, i, ⟨a, vs, e, q, r⟩ => ⟨a, vs, e, q.elim (fun z => .inl ((hs a (ne_ins hx z fun _ _ _ y => nomatch y)).trans z)) .inr, Reps.chI hx hs (by simpa [noins] using i) r⟩
  | .lst ds, _, i, ⟨a, vs, e, n, q, r⟩ => ⟨a, vs, e, ⟨n, ne_ins hx q fun _ _ _ y => nomatch y⟩, (hs a (ne_ins hx q fun _ _ _ y => nomatch y)).trans q, Reps.chI hx hs (by simpa [noins] using i) r⟩
  | .dic kvs, _, i, ⟨a, ks, e, n, q, r⟩ => by
    have ne : a ≠ x := q.elim (fun z => ne_ins hx z fun _ _ _ y => nomatch y) fun ⟨o, z⟩ => ne_ins hx z fun _ _ _ y => nomatch y
    exact ⟨a, ks, e, ⟨n, ne⟩, q.elim (fun z => .inl ((hs a ne).trans z)) fun ⟨o, z⟩ => .inr ⟨o, (hs a ne).trans z⟩, RepK.chI hx hs (by simpa [noins] using i) r⟩
  | .ins c fs, _, i, _ => by simp [noins] at i
  | .box n, _, _, ⟨a, e, q⟩ => ⟨a, e, q.imp fun b _ z => (hs b (ne_ins hx z fun _ _ _ y => nomatch y)).trans z⟩
  | .ty _, _, _, h => h
  | .cls _, _, _, h => h
  | .raw _, _, _, h => h
  | .scr _, _, _, ⟨a, e, q⟩ => ⟨a, e, ScrAt.chI hx hs q⟩
theorem Reps.chI (hx : H x = some (.ins C dx gs)) (hs : ∀ a, a ≠ x → H' a = H a) : ∀ {ds : List D} {vs : List V}, noinss ds = true → Reps G N H ds vs → Reps G (fun a => N a ∧ a ≠ x) H' ds vs
  | [], _, _, h => h
  | _ :: _, _, i, ⟨w, ws, e, r, rs⟩ => ⟨w, ws, e, Rep.chI hx hs (and_l (by simpa [noinss] using i)) r, Reps.chI hx hs (and_r (by simpa [noinss] using i)) rs⟩
theorem RepK.chI (hx : H x = some (.ins C dx gs)) (hs : ∀ a, a ≠ x → H' a = H a) : ∀ {ds : List (Key × D)} {vs : List (Key × V)}, noinsK ds = true → RepK G N H ds vs → RepK G (fun a => N a ∧ a ≠ x) H' ds vs
  | [], _, _, h => h
  | (_, _) :: _, _, i, ⟨w, ws, e, r, rs⟩ => ⟨w, ws, e, Rep.chI hx hs (and_l (by simpa [noinsK] using i)) r, RepK.chI hx hs (and_r (by simpa [noinsK] using i)) rs⟩
end
def noinsF : List (Str × D) → Bool
  | [] => true
  | (_, x) :: xs => noins x && noinsF xs
theorem RepF.chI (hx : H x = some (.ins C dx gs)) (hs : ∀ a, a ≠ x → H' a = H a) : ∀ {ds : List (Str × D)} {vs : List (Str × V)}, noinsF ds = true → RepF G N H ds vs → RepF G (fun a => N a ∧ a ≠ x) H' ds vs
  | [], _, _, h => h
  | (_, _) :: _, _, i, ⟨w, ws, e, r, rs⟩ => ⟨w, ws, e, Rep.chI hx hs (and_l (by simpa [noinsF] using i)) r, RepF.chI hx hs (and_r (by simpa [noinsF] using i)) rs⟩
def putFD (f : Str) (v : D) : List (Str × D) → List (Str × D)
  | [] => [(f, v)]
  | (g, x) :: r => if g = f then (g, v) :: r else (g, x) :: putFD f v r
theorem RepF.put {f : Str} {d : D} {v : V} (r : Rep G N H d v) : ∀ {fs : List (Str × D)} {gs : List (Str × V)}, RepF G N H fs gs → RepF G N H (putFD f d fs) (putF f v gs)
  | [], _, h => by rw [show _ = [] from h]; exact ⟨v, [], rfl, r, rfl⟩
  | (g, x) :: rest, _, ⟨w, ws, e, r1, rs⟩ => by
    subst e
    unfold putFD putF
    by_cases h : g = f
    · rw [if_pos h, if_pos h]; exact ⟨v, ws, rfl, r, rs⟩
    · rw [if_neg h, if_neg h]; exact ⟨w, _, rfl, r1, RepF.put r rs⟩
theorem noinsF_put {f : Str} {d : D} (h : noins d = true) : ∀ {fs : List (Str × D)}, noinsF fs = true → noinsF (putFD f d fs) = true
  | [], _ => by simp [putFD, noinsF, h]
  | (g, x) :: rest, i => by
    unfold putFD
    have i1 := and_l (show (noins x && noinsF rest) = true by simpa [noinsF] using i)
    have i2 := and_r (show (noins x && noinsF rest) = true by simpa [noinsF] using i)
    by_cases e : g = f
    · rw [if_pos e]; simp [noinsF, h, i2]
    · rw [if_neg e]; simp [noinsF, i1, noinsF_put h i2]
theorem RepF.length : ∀ {fs : List (Str × D)} {gs : List (Str × V)}, RepF G N H fs gs → gs.length = fs.length
  | [], _, h => by rw [show _ = [] from h]; rfl
  | (_, _) :: fs, _, ⟨w, ws, e, _, rs⟩ => by rw [e, List.length_cons, List.length_cons, RepF.length rs]
end
/-- the slots without instances -/
def roI (ρ : Ro) : Ro := ρ.map fun o => match o with
  | some d => if noins d = true then some d else none
  | none => none
theorem roI_at {ρ : Ro} {i : Nat} {d : D} (h : (roI ρ)[i]? = some (some d)) : ρ[i]? = some (some d) ∧ noins d = true := by
  unfold roI at h
  rw [List.getElem?_map] at h
  rcases e : ρ[i]? with _ | _ | d'
  · rw [e] at h; cases h
  · rw [e] at h; cases h
  · rw [e] at h
    have h : some (if noins d' = true then some d' else none) = some (some d) := h
    by_cases hn : noins d' = true
    · rw [if_pos hn] at h; cases h; exact ⟨rfl, hn⟩
    · rw [if_neg hn] at h; cases h
section
variable {G : Wd} {X : Cx} {Wx : WX}
/-- the stores of a new instance's attributes -/
def fldN (ρ : Ro) : List (Str × (Ro → W Ex D)) → List (Str × D) → If
  | [], acc => W.ret acc
  | (f, m) :: r, acc => W.bind (W.calm (m ρ)) fun d => if noins d = true ∧ acc.length < 1000 then fldN ρ r (putFD f d acc) else W.fail
theorem fldN_mono {ρ : Ro} : ∀ {ms : List (Str × (Ro → W Ex D))} {acc : List (Str × D)}, (∀ m ∈ ms, ∀ ρ, W.Mono (m.2 ρ)) → W.Mono (fldN ρ ms acc)
  | [], _, _ => W.Mono.ret
  | (f, m) :: r, acc, h => (h _ List.mem_cons_self _).calm.bind fun d => ite_mono (fldN_mono fun m' hm => h m' (List.mem_cons_of_mem _ hm)) W.Mono.fail
def tSf (G : Wd) (C : Addr) (ms : List (Str × (Ro → W Ex D))) : TS := fun D' σ H => ∃ (N : Addr → Prop) (ρ : Ro) (x dx : Addr) (acc : List (Str × D)) (gs : List (Str × V)), σ[0]? = some (some (.ref x)) ∧ H x = some (.ins C dx gs) ∧ RepF G N H acc gs ∧ noinsF acc = true ∧ ERel G N H σ ρ ∧ (∀ (i : Nat) (d : D), ρ[i]? = some (some d) → noins d = true) ∧
  fldN ρ ms acc (fun fs => ∀ H' gs', (∀ a o, a ≠ x → H a = some o → H' a = some o) → H' x = some (.ins C dx gs') → RepF G (Fr N H) H' fs gs' → D'.nx σ H') (fun _ => False)
structure DSf (G : Wd) (X : Cx) (C : Addr) (sts : List Stmt) (ms : List (Str × (Ro → W Ex D))) : Prop where
  ps : PSs X sts (tSf G C ms)
  mono : ∀ m ∈ ms, ∀ ρ, W.Mono (m.2 ρ)
theorem dsf_nil {C : Addr} : DSf G X C [] [] := by
  refine ⟨⟨fun pins s σ H D' I q => pss_nil.run pins s σ H D' I ?_⟩, fun m hm => by cases hm⟩
  obtain ⟨N, ρ, x, dx, acc, gs, h0, hx, rf, hn, rr, hr, q⟩ := q
  exact q H gs (fun _ _ _ e => e) hx (RepF.mono (fun _ n _ => .inl n) (Le.of (Same.refl H)) rf)
theorem dsf_cons {C : Addr} {c f : Str} {e : Expr} {sts : List Stmt} {m : Ro → W Ex D} {ms : List (Str × (Ro → W Ex D))} {p p' pos : Pos} (Z : X.K = G.K) (T : ClsD G c C) (nf : NoAttr G.K C f) (hv : PE X (.Name "self" p) (tVar 0)) (he : DE G X WxF e m) (hs : DSf G X C sts ms) (hsw : swapsWith e (some (.Attribute (.Name "self" p) f p')) pos.line X.env = pure false := by rfl) :
    DSf G X C (.Assign [.Attribute (.Name "self" p) f p'] e pos :: sts) ((f, m) :: ms) := by
  refine ⟨⟨fun pins s σ H D' I q => (pss_cons (ps_fld hv he.pe hsw) hs.ps).run pins s σ H D' I ?_⟩, fun m' hm => ?_⟩
  · obtain ⟨N, ρ, x, dx, acc, gs, h0, hx, rf, hn, rr, hr, q⟩ := q
    refine he.go rr q (fun x z => z.elim) fun d v H1 z s1 r1 rr1 => ?_
    obtain ⟨⟨hd, hl⟩, z⟩ := ite_ret z
    have hx1 : H1 x = some (.ins C dx gs) := s1 _ _ hx
    refine ⟨.ref x, h0, x, C, dx, gs, rfl, hx1, Z ▸ T.cl, Z ▸ nf, by rw [rf.length]; exact hl, ?_⟩
    have hch : ∀ a, a ≠ x → upd H1 x (.ins C dx (putF f v gs)) a = H1 a := fun a h => upd_ne h
    have rd : Rep G (fun a => Fr N H a ∧ a ≠ x) (upd H1 x (.ins C dx (putF f v gs))) d v := Rep.chI hx1 hch hd r1
    have ra : RepF G (fun a => Fr N H a ∧ a ≠ x) (upd H1 x (.ins C dx (putF f v gs))) acc gs := RepF.chI hx1 hch hn (RepF.mono (fun _ n _ => .inl n) (Le.of s1) rf)
    refine ⟨fun a => Fr N H a ∧ a ≠ x, ρ, x, dx, putFD f d acc, putF f v gs, h0, upd_same, RepF.put rd ra, noinsF_put hd hn, fun i d' e' => ?_, hr, (fldN_mono hs.mono).run (fun fs y H' gs' st hx' rf' => ?_) (fun _ y => y) z⟩
    · obtain ⟨v', e1, r2⟩ := rr1 i d' e'
      exact ⟨v', e1, Rep.chI hx1 hch (hr i d' e') (r2.sub fun _ n => .inl n)⟩
    · refine y H' gs' (fun a o hne ha => st a o hne ?_) hx' (RepF.mono (fun a n _ => ?_) (Le.of (Same.refl H')) rf')
      · rw [upd_ne hne]; exact s1 a o ha
      · rcases n with n | n
        · exact n.1
        · by_cases hax : a = x
          · subst hax; rw [upd_same] at n; cases n
          · rw [upd_ne hax] at n; exact .inr (s1.free n)
  · rcases List.mem_cons.mp hm with e | hm
    · rw [e]; exact he.mono
    · exact hs.mono m' hm
/-! ### the statements ahead of them -/
def rawAt : Option (Option (Bool × D)) → Option Addr
  | some (some (_, .raw a)) => some a
  | _ => none
abbrev IW := En → W (Ex × En) (List (Str × D))
def tSi (G : Wd) (Wx : WX) (C : Addr) (m : IW) : TS := fun D' σ H => ∃ H0 N0 ρ x dx, SRel G H0 N0 σ H ρ ∧ H0 x = some (.ins C dx []) ∧ rawAt ρ[0]? = some x ∧
  m ρ (fun fs => ∀ σ' H' gs, (∀ a o, a ≠ x → H0 a = some o → H' a = some o) → H' x = some (.ins C dx gs) → RepF G (Fr N0 H0) H' fs gs → D'.nx σ' H') (PoXS G H0 N0 Wx)
structure DSi (G : Wd) (X : Cx) (Wx : WX) (C : Addr) (sts : List Stmt) (m : IW) : Prop where
  ps : PSs X sts (tSi G Wx C m)
  mono : ∀ ρ, W.Mono (m ρ)
def mFlds (ms : List (Str × (Ro → W Ex D))) : IW := fun ρ Q E => fldN (roI (ro ρ)) ms [] Q (fun _ => False)
theorem rawAt_inv {ρ : En} {x : Addr} (h : rawAt ρ[0]? = some x) : ∃ b, ρ[0]? = some (some (b, .raw x)) := by
  unfold rawAt at h
  split at h
  · rename_i e; cases h; exact ⟨_, e⟩
  · cases h
theorem SRel.self {H0 H : Hp} {N0 : Addr → Prop} {σ : Fb.St} {ρ : En} {x : Addr} (r : SRel G H0 N0 σ H ρ) (h : rawAt ρ[0]? = some x) : σ[0]? = some (some (.ref x)) := by
  obtain ⟨b, e⟩ := rawAt_inv h
  obtain ⟨S, o⟩ := r.own
  cases b with
  | false =>
    obtain ⟨v, e1, r1⟩ := o.shr 0 _ e
    rw [e1, show v = .ref x from r1]
  | true =>
    obtain ⟨a, e1, _, r1⟩ := o.own 0 _ e
    exact r1.elim
theorem dsi_flds {C : Addr} {sts : List Stmt} {ms : List (Str × (Ro → W Ex D))} (h : DSf G X C sts ms) : DSi G X Wx C sts (mFlds ms) := by
  refine ⟨⟨fun pins s σ H D' I q => h.ps.run pins s σ H D' I ?_⟩, fun ρ => ⟨fun f _ q => (fldN_mono h.mono).run f (fun _ z => z) q⟩⟩
  obtain ⟨H0, N0, ρ, x, dx, r, hx0, h0, q⟩ := q
  refine ⟨Fr N0 H0, roI (ro ρ), x, dx, [], [], r.self h0, r.same _ _ hx0, rfl, rfl, fun i d e => r.ro i d (roI_at e).1, fun i d e => (roI_at e).2, (fldN_mono h.mono).run (fun fs y H' gs st hx rf => ?_) (fun _ z => z) q⟩
  exact y σ H' gs (fun a o hne ha => st a o hne (r.same a o ha)) hx (RepF.mono (fun a n _ => n.elim id fun z => .inr (r.same.free z)) (Le.of (Same.refl H')) rf)
def mIcons (m : En → WS) (n : IW) : IW := fun ρ => W.bind (m ρ) fun p => match p.1 with
  | .nx => if rawAt p.2[0]? = rawAt ρ[0]? then n p.2 else W.fail
  | _ => W.fail
theorem mIcons_mono {m : En → WS} {n : IW} (hm : ∀ ρ, W.Mono (m ρ)) (hn : ∀ ρ, W.Mono (n ρ)) (ρ : En) : W.Mono (mIcons m n ρ) := (hm ρ).bind fun p => by
  obtain ⟨f, ρ'⟩ := p
  cases f with
  | nx => exact ite_mono (hn _) W.Mono.fail
  | _ => exact W.Mono.fail
theorem dsi_cons {C : Addr} {st : Stmt} {sts : List Stmt} {m : En → WS} {n : IW} (h : DS G X Wx st m) (hs : DSi G X Wx C sts n) : DSi G X Wx C (st :: sts) (mIcons m n) := by
  refine ⟨⟨fun pins s σ H D' I q => (pss_cons h.ps hs.ps).run pins s σ H D' I ?_⟩, mIcons_mono h.mono hs.mono⟩
  obtain ⟨H0, N0, ρ, x, dx, r, hx0, h0, q⟩ := q
  refine ⟨H0, N0, ρ, r, (h.mono ρ).run (fun p z => ?_) (fun _ z => z) q⟩
  obtain ⟨f, ρ'⟩ := p
  cases f with
  | nx =>
    obtain ⟨e, z⟩ := ite_ret z
    exact fun σ' H' r' => ⟨H0, N0, ρ', x, dx, r', hx0, e.trans h0, z⟩
  | bk => exact z.elim
  | ct => exact z.elim
  | rt r => exact z.elim
end
/-- the slots at the start of an __init__ -/
def initI (n : Nat) (x : Addr) (ds : List D) : En := initEn n (.raw x :: ds)
def runIni (n : Nat) (b : IW) : List D → If := fun ds Q E => ∀ x, b (initI n x ds) Q (fun p => E p.1)
theorem runIni_mono {n : Nat} {b : IW} (h : ∀ ρ, W.Mono (b ρ)) (ds : List D) : W.Mono (runIni n b ds) := ⟨fun hq he q x => (h _).run (fun p z => hq _ z) (fun p z => he _ z) (q x)⟩
theorem fni_of {P : Program} {w : World} {G : Wd} {base : Heap} {k : Nat} {f C : Addr} {x qual : Str} {st : Stmt} {dV kV doc pm cdv ct oc : Value} {an od : Option Addr} {osl : Array (Option Value)} {Ns ps : List Str} {b : IW}
    (lk : G.K.lookup f = some ⟨oc, od, .func (PySem.W.fnOf x qual (defArgs st) (defBody st) (defScope st) dV kV doc pm an cdv ct), osl⟩) (hcd : PySem.W.codeIn G.K cdv qual = true) (S : FnScope Ns ps (defScope st))
    (hm : ∀ ρ, W.Mono (b ρ))
    (body : ∀ (A : Around) (outer : List Env) (s : Shared) (H : Hp) (E : XK), Cz P w G base k (cxD P w G base Ns qual (defScope st) f cdv A outer s H E) (wxD E) →
      DSi G (cxD P w G base Ns qual (defScope st) f cdv A outer s H E) (wxD E) C (defBody st) b) :
    FnI P w G base (k + 1) f (PySem.W.fnOf x qual (defArgs st) (defBody st) (defScope st) dV kV doc pm an cdv ct) ps C (runIni Ns.length b) := by
  refine ⟨fun A outer s H args us vs ds N y dx Q E hr hg e0 hy hb rv rd hl q => ?_, runIni_mono hm⟩
  refine LamX.run_ofS (vs := .ref y :: vs) lk hcd S hr e0 hb (.cons rfl rv) hl fun hr' => ?_
  have z : Cz P w G base k (cxD P w G base Ns qual (defScope st) f cdv A outer s H E) (wxD E) := ⟨rfl, rfl, rfl, rfl, rfl, hr', hg, takes_of rfl rfl rfl rfl⟩
  have d := body A outer s H E z
  have hlen : ps.length ≤ Ns.length := by
    have := congrArg List.length S.pre
    rw [List.length_take] at this
    omega
  have rd' : Reps G N H (.raw y :: ds) (.ref y :: vs) := .cons rfl rd
  have h1 : 1 ≤ Ns.length := by omega
  refine ⟨_, d.ps, H, N, initI Ns.length y ds, y, dx, .start rd' (by show vs.length + 1 ≤ _; omega), hy, ?_, (d.mono _).run (fun fs z σ' H' gs st hx rf => z H' gs st hx rf) (fun p z => ?_) (q y)⟩
  · unfold initI initEn
    rfl
  · exact fun σ c dd H' r' x' => z c dd H' r'.same x'
end Fb
end

section
set_option Elab.async false
set_option linter.all false
set_option maxRecDepth 100000
set_option maxHeartbeats 4000000
/-! enumerate over a tuple or a list. -/
namespace Fb
open PySem PySem.Spec PyProof.Rows L2
section
open PySem.AutoSeq1 (wpAny_loadPart')
theorem meets_enumT (l : Addr) (items : Array Value) (n : Nat) (dct : Option Addr) (sl : Array (Option Value)) :
    Meets (Builtin.«enumerate.__new__» ⟨[.type "enumerate", .ref l], []⟩) (fun _ R s => s.heap.get? l = some { cls := .type "tuple", dict := dct, data := .seq items n, slots := sl } ∧
      R (.ok (.ret (.ref (s.heap.push { cls := .type "tuple_iterator", data := .fields #[.ref l, .int 0 0] }).objs.size)))
        { s with heap := (s.heap.push { cls := .type "tuple_iterator", data := .fields #[.ref l, .int 0 0] }).push { cls := .type "enumerate", data := .fields #[.none, .bool false, .ref s.heap.objs.size, rawInt 0, .none, .none] } }) :=
  .of_wp fun prog w A R s h => by
    obtain ⟨hp, g, d, tk, os⟩ := s
    obtain ⟨hl, h⟩ := h
    have hsub := sub_enumerate
    have hL : Heap.IsTuple (Shared.heap ⟨hp, g, d, tk, os⟩) l items := ⟨_, hl, rfl, n, rfl⟩
    wp_walk using wpAny_loadPart' hl
    refine wpAny_stack_any fun st => wpAny_pure ?_
    split
    · rename_i c _ _ _ _ _
      cases (c == Value.type "enumerate")
      · wp_walk using wpAny_loadPart' hl, wpAny_pyIter_tuple hL
        exact ⟨_, rfl, h⟩
      · wp_walk using wpAny_loadPart' hl, wpAny_pyIter_tuple hL
        exact ⟨_, rfl, h⟩
    · wp_walk using wpAny_loadPart' hl, wpAny_pyIter_tuple hL
      exact ⟨_, rfl, h⟩
end
section
variable {prog : Program} {w : World} {A : Around} {E : Value → Shared → Prop} {s : Shared}
theorem call_enumT {l : Addr} {items : Array Value} {Q : Value → Shared → Prop} (hL : s.heap.IsTuple l items)
    (h : ∀ h', IsEnum h' (s.heap.objs.size + 1) s.heap.objs.size 0 .none → h'.IsTupleIter s.heap.objs.size l 0 → (∀ b o, s.heap.get? b = some o → h'.get? b = some o) → Q (.ref (s.heap.objs.size + 1)) { s with heap := h' }) :
    wpAny (model prog w) A (call (.type "enumerate") [.ref l]) Q E s := by
  obtain ⟨⟨c, dct, dt, sl⟩, hl, hc, n, hd⟩ := hL
  replace hc : c = .type "tuple" := hc
  replace hd : dt = .seq items n := hd
  subst hc hd
  refine callType_new F.called_enumerate (by decide) (F.typeCall_enumerate_1 _) (F.newCall_enumerate_1 _) (fun obj => F.args_object_init_2 obj _) F.entry_enumerate_new (meets_enumT l items n dct sl) ⟨hl, ?_⟩
  have hz : (s.heap.push { cls := .type "tuple_iterator", data := .fields #[.ref l, .int 0 0] }).objs.size = s.heap.objs.size + 1 := Heap.size_push ..
  show _ ∧ _
  rw [hz]
  have he : IsEnum ((s.heap.push { cls := .type "tuple_iterator", data := .fields #[.ref l, .int 0 0] }).push
      { cls := .type "enumerate", data := .fields #[.none, .bool false, .ref s.heap.objs.size, rawInt 0, .none, .none] }) (s.heap.objs.size + 1) s.heap.objs.size 0 .none := by
    have := Heap.get?_push_size (s.heap.push { cls := .type "tuple_iterator", data := .fields #[.ref l, .int 0 0] })
      (o := { cls := .type "enumerate", data := .fields #[.none, .bool false, .ref s.heap.objs.size, rawInt 0, .none, .none] }) rfl
    rw [hz] at this; exact this
  exact ⟨⟨_, he, rfl⟩, h _ he ⟨_, Heap.get?_push_of_some _ (Heap.get?_push_size _ rfl), rfl, rfl⟩ fun b o x => Heap.get?_push_of_some _ (Heap.get?_push_of_some _ x)⟩
end
theorem drawsT {prog : Program} {w : World} {A : Around} (hh : A.handled = none) (it l : Addr) (hne : l ≠ it) (items : Array Value) :
    Draws prog w A it [it, l] items.size (fun i v => items[i]? = some v) (fun i h => h.IsTupleIter it l i ∧ h.IsTuple l items) where
  live := fun _ _ st => let ⟨o, ho, _⟩ := st.1; ⟨o, ho⟩
  frame := fun _ _ _ st hk => ⟨st.1.at fun o e => hk it (by simp) o e, let ⟨o, e, r⟩ := st.2; ⟨o, hk l (by simp) o e, r⟩⟩
  item := fun i s Q E hi st hQ => by
    refine RZ.nextOf_tuple_item st.1 st.2 (x := items[i]) (by simp [hi]) fun h' hit' hs' => ?_
    exact hQ _ h' s.toks (by simp [hi]) ⟨hit', let ⟨o, e, r⟩ := st.2; ⟨o, (hs'.2 l hne).trans e, r⟩⟩ hs'
  done := fun s Q E st hE => RZ.nextOf_tuple_end hh st.1 st.2 (by simp) hE
theorem pyNext_enumT_end {prog : Program} {w : World} {A : Around} {E : Value → Shared → Prop} {s : Shared} {e it l : Addr} {i : Nat} {items : Array Value} {old : Value} {c : Int} {Q : Option Value → Shared → Prop} (hh : A.handled = none)
    (he : IsEnum s.heap e it c old) (hit : s.heap.IsTupleIter it l i) (hl : s.heap.IsTuple l items) (hx : items[i]? = none)
    (hQ : ∀ h', Heap.ExtBut it s.heap h' → Q none { s with heap := h' }) : wpAny (model prog w) A (pyNext (.ref e)) Q E s := by
  have hT : s.TypeIs (.ref e) "enumerate" := ⟨_, he, rfl⟩
  unfold pyNext
  refine wpAny_bind (wpAny_attempt (wpAny_callSpecial?_slot (name := Str.ofString "__next__") hT F.slot_enumerate_next
    (wpAny_call_entry F.slot_enumerate_next hT F.entry_enumerate_next ?_ (F.args_enumerate_next_1 _))))
  show wpAny _ _ (field (.ref e) 2 >>= _) _ _ _
  refine wpAny_bind (wpAny_field he rfl (x := .ref it) rfl ?_)
  refine wpAny_bind (RZ.nextOf_tuple_end hh hit hl hx fun h' x he' hx' => ?_)
  obtain ⟨o, ho, hc⟩ := hx'
  refine wpAny_bind (wpAny_isInstance (T := "StopIteration") (b := true) ⟨o, ho, hc⟩ isSubtype_stop ?_)
  exact wpAny_pure (hQ _ he')
def IteT (K : PySem.W.Frag) (a : Addr) : It :=
  ⟨fun i H => ∃ (xs : List V) (x : V), SqT K H a xs ∧ xs[i]? = some x, fun i H v H' => ∃ T x, v = .ref T ∧ H T = none ∧ H' = upd H T (.tup [.int (i : Nat), x]) ∧ ∀ xs, SqT K H a xs → xs[i]? = some x, fun i H => ∃ xs : List V, SqT K H a xs ∧ xs.length ≤ i⟩
theorem turn_enumT {P : Program} {w : World} {K : PySem.W.Frag} {elts : List Expr} {kk : Nat} {tpos : Pos} (a e it : Addr) :
    Turn P w K (.Tuple elts kk tpos) (IteT K a) [e, it] e (fun i h => (∃ old, IsEnum h e it ((i : Nat) : Int) old) ∧ h.IsTupleIter it a i ∧ e ≠ it) where
  mem := by simp
  obj := fun i h st b hb => by
    obtain ⟨⟨old, he⟩, ⟨o, ho, hc, hd⟩, _⟩ := st
    have e' : b = e ∨ b = it := by simpa using hb
    rcases e' with z | z
    · rw [z]; exact ⟨_, he, fun v q => nomatch q⟩
    · rw [z]; exact ⟨o, ho, fun v q => by rw [hd] at q; cases q⟩
  keep := fun i h h' st k => let ⟨⟨old, he⟩, hi, hne⟩ := st; ⟨⟨old, k e (by simp) _ he⟩, hi.at fun o q => k it (by simp) o q, hne⟩
  item := by
    intro X hP hw hK hc i pins s σ H E I hf st hg
    subst hP hw hK
    obtain ⟨⟨old, he⟩, hit, hne⟩ := st
    obtain ⟨xs, x, hq, hx⟩ := hg
    obtain ⟨its, rv, p, hz⟩ := I.tuple hq
    obtain ⟨u, hu, ru⟩ := rv.get hx
    have hel : e < s.heap.objs.size := Heap.lt_size he
    have hil : it < s.heap.objs.size := by obtain ⟨_, q, _⟩ := hit; exact Heap.lt_size q
    have hai : a ≠ it := by
      rintro rfl
      obtain ⟨o, e1, c1, _⟩ := hit
      obtain ⟨o', e2, c2, _⟩ := p
      rw [e1] at e2; cases e2
      rw [c1] at c2
      exact absurd c2 (by decide)
    have hae : e ≠ a := by
      rintro rfl
      obtain ⟨o', e2, c2, _⟩ := p
      have he' : s.heap.get? e = some _ := he
      rw [he'] at e2; cases e2
      exact absurd (show Value.type "enumerate" = .type "tuple" from c2) (by decide)
    have D := drawsT (prog := X.prog) (w := X.w) (A := X.A.in1) (I.ok.hd hc) it a hai its.toArray
    refine wpAny_pyNext_enum_itemD D he ⟨hit, p⟩ (by
      have := (List.getElem?_eq_some_iff.mp hu).1
      simpa using this) hne (by simp [hne, hae]) fun y h' tk hP ho st' hT hsz hk => ?_
    have hyu : y = u := by
      have : its.toArray[i]? = some u := by simpa using hu
      rw [hP] at this
      exact Option.some.inj this
    subst hyu
    refine ⟨_, rfl, wpAny_letOwnedTupleGo_enum (s := { s with heap := h', toks := tk + 1 }) ho fun h'' he' sb => ?_⟩
    have hT2 : h''.get? s.heap.objs.size = some { cls := .type "tuple", data := .seq #[.int i tk, y] } := (sb.2 _ (Nat.ne_of_gt hel)).trans hT
    have new : ObjOk X.prog X.w (upd H s.heap.objs.size (.tup [.int (i : Nat), x])) h'' s.heap.objs.size (.tup [.int (i : Nat), x]) :=
      ⟨by show 2 ≤ sizeLine; decide, [.int i tk, y], .cons ⟨_, rfl⟩ (.cons ru .nil), ⟨_, hT2, rfl, _, rfl⟩⟩
    have I1 : Inv X pins σ (upd H s.heap.objs.size (.tup [.int (i : Nat), x])) { s with heap := h'', toks := tk + 1 } :=
      I.turnedNew (ch := [e, it]) (fun b ob hb q => (sb.2 b (fun z => hb (by simp [z]))).trans (hk b ob (fun z => hb (by simp [z])) (fun z => hb (by simp [z])) q)) hf (Nat.le_refl _) new
    refine ⟨.ref s.heap.objs.size, _, I1, rfl, ⟨_, x, rfl, I.hok.fresh (Nat.le_refl _), rfl, fun ys hy => by rw [I.tuple_inj hy hq]; exact hx⟩, ⟨⟨y, ?_⟩, st'.1.at fun o q => (sb.2 it (Ne.symm hne)).trans q, hne⟩, fun b hb => ?_⟩
    · have e1 : ((i + 1 : Nat) : Int) = (i : Int) + 1 := by omega
      rw [e1]; exact he'
    · have hb' : b < s.heap.objs.size := by
        have e' : b = e ∨ b = it := by simpa using hb
        rcases e' with z | z
        · rw [z]; exact hel
        · rw [z]; exact hil
      rw [upd_ne (Nat.ne_of_lt hb')]
      exact (hf b hb).1
  done := by
    intro X hP hw hK hc i pins s σ H E I hf st hg
    subst hP hw hK
    obtain ⟨⟨old, he⟩, hit, hne⟩ := st
    obtain ⟨xs, hq, hx⟩ := hg
    obtain ⟨its, rv, p, hz⟩ := I.tuple hq
    obtain ⟨f0, f1, f2, f3, f4, f5⟩ := hf it (by simp)
    have hl := rv.length
    exact pyNext_enumT_end (I.ok.hd hc) he hit p (by simp; omega) fun h' eb => ⟨rfl, I.turned (t' := s.toks) (fun b o hb q => eb b o hb q) f0 f1 f3 f4 f5⟩
  self := fun A i s Q E st h => let ⟨⟨_, he⟩, _⟩ := st; wpAny_pyIter_enum he h
section
variable {G : Wd} {X : Cx} {Wx : WX}
theorem pi_enum2 {e : Expr} {ta : TA} {p pos tpos : Pos} {elts : List Expr} {kk : Nat} (hg : Gl X "enumerate") (hm : X.mg "enumerate" = none) (ha : PA X [e] ta) (hs : starEach [e] X.env = [(false, eval e X.env)] := by rfl) :
    PI X (.Tuple elts kk tpos) (.Call (.Name "enumerate" p) [e] [] pos) (fun σ H R => ta σ H fun vs H1 => ∃ a, vs = [.ref a] ∧ ((∃ xs, SqL X.K H1 a xs ∧ R (Ite X.K a) H1) ∨ ∃ xs, SqT X.K H1 a xs ∧ R (IteT X.K a) H1)) := by
  refine ⟨fun pins s σ H R I h => ?_⟩
  refine Call_ (ld_blt I hg hm boot_enumerate (PyProof.Rows.callWith_type1 (thn (ha.run pos pins s σ H _ I h) fun us s1 ⟨vs, H1, I1, r1, q1⟩ => ?_) hs rfl))
  obtain ⟨a, ex, q⟩ := q1
  subst ex
  cases r1 with
  | cons r rr =>
    cases rr
    cases r
    rcases q with ⟨xs, hq, q⟩ | ⟨xs, hq, q⟩
    · obtain ⟨its, rv, p', hz⟩ := I1.list hq
      refine call_enumerate_list p'.isList fun h' he hit hsz hk => wpAny_pyIter_enum he ?_
      have I2 : Inv X pins σ H1 { s1 with heap := h' } := I1.kept (t' := s1.toks) hk
      refine ⟨s1.heap.objs.size + 1, [s1.heap.objs.size + 1, s1.heap.objs.size], _, _, H1, rfl, I2, turn_enum a (s1.heap.objs.size + 1) s1.heap.objs.size, ⟨⟨.none, he⟩, hit, Nat.succ_ne_self _⟩, fun b hb => ?_, q⟩
      have e' : b = s1.heap.objs.size + 1 ∨ b = s1.heap.objs.size := by simpa using hb
      have hle : s1.heap.objs.size ≤ b := by
        rcases e' with z | z
        · rw [z]; exact Nat.le_add_right _ _
        · rw [z]; exact Nat.le_refl _
      exact I1.fpOk hle (I1.hok.fresh hle)
    · obtain ⟨its, rv, p', hz⟩ := I1.tuple hq
      refine call_enumT (items := its.toArray) p' fun h' he hit hk => wpAny_pyIter_enum he ?_
      have I2 : Inv X pins σ H1 { s1 with heap := h' } := I1.kept (t' := s1.toks) hk
      refine ⟨s1.heap.objs.size + 1, [s1.heap.objs.size + 1, s1.heap.objs.size], _, _, H1, rfl, I2, turn_enumT a (s1.heap.objs.size + 1) s1.heap.objs.size, ⟨⟨.none, he⟩, hit, Nat.succ_ne_self _⟩, fun b hb => ?_, q⟩
      have e' : b = s1.heap.objs.size + 1 ∨ b = s1.heap.objs.size := by simpa using hb
      have hle : s1.heap.objs.size ≤ b := by
        rcases e' with z | z
        · rw [z]; exact Nat.le_add_right _ _
        · rw [z]; exact Nat.le_refl _
      exact I1.fpOk hle (I1.hok.fresh hle)
def enD : Nat → List D → List D
  | _, [] => []
  | k, d :: ds => .tup [.int k, d] :: enD (k + 1) ds
theorem enD_get : ∀ {ds : List D} {k i : Nat}, (enD k ds)[i]? = ds[i]?.map fun d => .tup [.int ((k + i : Nat) : Int), d]
  | [], _, _ => by simp [enD]
  | d :: ds, k, 0 => by simp [enD]
  | d :: ds, k, i + 1 => by
    unfold enD
    rw [List.getElem?_cons_succ, List.getElem?_cons_succ, enD_get, show k + 1 + i = k + (i + 1) by omega]
theorem serves_enumL {K : PySem.W.Frag} {N : Addr → Prop} {H : Hp} {a : Addr} {ds : List D} {vs : List V} (n : N a) (h : H a = some (.lst vs)) (r : Reps G N H ds vs) : Serves G N (Ite K a) (enD 0 ds) H := fun HP p i H' s => by
  have h' : SqL K H' a vs := .of (s _ _ (p.has a _ h (.inl n)))
  have r' := (r.part p).same s
  refine ⟨fun d e => ?_, fun e => ⟨vs, h', ?_⟩⟩
  · rw [enD_get] at e
    obtain ⟨d', e, ed⟩ := Option.map_eq_some_iff.mp e
    obtain ⟨v, e1, r1⟩ := r'.get' e
    refine ⟨⟨vs, v, h', e1⟩, fun x H'' y => ?_⟩
    obtain ⟨T, w, y1, y2, y3, y4⟩ := (show ∃ T x', x = .ref T ∧ H' T = none ∧ H'' = upd H' T (.tup [.int (i : Nat), x']) ∧ ∀ xs, SqL K H' a xs → xs[i]? = some x' from y)
    have := y4 vs h'
    rw [e1] at this
    cases this
    subst y1 y3 ed
    have s2 : Same H' (upd H' T (.tup [.int (i : Nat), v])) := Same.updN (Same.refl H') y2
    refine ⟨s2, T, _, rfl, .inl upd_same, .int ((0 + i : Nat) : Int), [v], by rw [Nat.zero_add], rfl, .one (r1.same s2)⟩
  · rw [enD_get] at e
    rw [r.length]
    have e : ds[i]? = none := by simpa using e
    exact List.getElem?_eq_none_iff.mp e
theorem serves_enumT {N : Addr → Prop} {H : Hp} {a : Addr} {ds : List D} {vs : List V} (h : TupAt G.K H a vs) (r : Reps G N H ds vs) : Serves G N (IteT G.K a) (enD 0 ds) H := fun HP p i H' s => by
  have h' : SqT G.K H' a vs := ((Le.of s).tupT (p.has.tupT h)).sq
  have r' := (r.part p).same s
  refine ⟨fun d e => ?_, fun e => ⟨vs, h', ?_⟩⟩
  · rw [enD_get] at e
    obtain ⟨d', e, ed⟩ := Option.map_eq_some_iff.mp e
    obtain ⟨v, e1, r1⟩ := r'.get' e
    refine ⟨⟨vs, v, h', e1⟩, fun x H'' y => ?_⟩
    obtain ⟨T, w, y1, y2, y3, y4⟩ := (show ∃ T x', x = .ref T ∧ H' T = none ∧ H'' = upd H' T (.tup [.int (i : Nat), x']) ∧ ∀ xs, SqT G.K H' a xs → xs[i]? = some x' from y)
    have := y4 vs h'
    rw [e1] at this
    cases this
    subst y1 y3 ed
    have s2 : Same H' (upd H' T (.tup [.int (i : Nat), v])) := Same.updN (Same.refl H') y2
    refine ⟨s2, T, _, rfl, .inl upd_same, .int ((0 + i : Nat) : Int), [v], by rw [Nat.zero_add], rfl, .one (r1.same s2)⟩
  · rw [enD_get] at e
    rw [r.length]
    have e : ds[i]? = none := by simpa using e
    exact List.getElem?_eq_none_iff.mp e
def enumD : List D → W Ex (List D)
  | [.lst ds] => W.ret (enD 0 ds)
  | [.tup ds] => W.ret (enD 0 ds)
  | _ => W.fail
theorem enumD_mono (ds : List D) : W.Mono (enumD ds) := by
  unfold enumD
  split <;> first | exact W.Mono.ret | exact W.Mono.fail
theorem enumD_inv {ds : List D} {Q : List D → Prop} {E : Ex → Prop} (h : enumD ds Q E) : ∃ xs, (ds = [.lst xs] ∨ ds = [.tup xs]) ∧ Q (enD 0 xs) := by
  unfold enumD at h
  split at h
  · exact ⟨_, .inl rfl, h⟩
  · exact ⟨_, .inr rfl, h⟩
  · exact h.elim
def mEnum (m : Ro → W Ex (List D)) : Ro → W Ex (List D) := fun ρ => W.bind (m ρ) enumD
theorem di_enum {e : Expr} {m : Ro → W Ex (List D)} {p pos tpos : Pos} {elts : List Expr} {kk : Nat} (ZK : X.K = G.K) (Z : X.mg = G.mg) (hg : Gl X "enumerate") (hm : G.mg "enumerate" = none) (ha : DA G X Wx [e] m) (hs : starEach [e] X.env = [(false, eval e X.env)] := by rfl) : DI G X Wx (.Tuple elts kk tpos) (.Call (.Name "enumerate" p) [e] [] pos) (mEnum m) := by
  refine DI.imp (fun ρ => (ha.mono ρ).bind fun d => enumD_mono d) (pi_enum2 hg (Z ▸ hm) ha.pa hs) fun N ρ σ H R r q => ?_
  refine ha.go r q (fun x z => z) fun ds vs H1 z s1 r1 _ => ?_
  obtain ⟨xs, h, z⟩ := enumD_inv z
  rcases h with rfl | rfl
  · obtain ⟨v, rfl, a, ws, rfl, n, hq, rs⟩ := r1.one_inv
    exact ⟨a, rfl, .inl ⟨ws, .of hq, z _ H1 s1 (serves_enumL n hq rs)⟩⟩
  · obtain ⟨v, rfl, a, ws, rfl, hq, rs⟩ := r1.one_inv
    exact ⟨a, rfl, .inr ⟨ws, ZK ▸ hq.sq, z _ H1 s1 (ZK ▸ serves_enumT hq rs)⟩⟩
/-! ### a list, a tuple or a text -/
def walkD : D → W Ex (List D)
  | .lst ds => W.ret ds
  | .tup ds => W.ret ds
  | .str x => W.ret (x.cps.toList.map fun c => .str ⟨#[c]⟩)
  | _ => W.fail
theorem walkD_mono (d : D) : W.Mono (walkD d) := by
  unfold walkD
  split <;> first | exact W.Mono.ret | exact W.Mono.fail
theorem serves_str {N : Addr → Prop} {H : Hp} {x : Str} : Serves G N (Its x) (x.cps.toList.map fun c => D.str ⟨#[c]⟩) H := fun HP p i H' s => by
  rw [List.getElem?_map, Array.getElem?_toList]
  refine ⟨fun d e => ?_, fun e => ?_⟩
  · obtain ⟨c, ec, ed⟩ := Option.map_eq_some_iff.mp e
    refine ⟨(Array.getElem?_eq_some_iff.mp ec).1, fun v H'' y => ?_⟩
    obtain ⟨rfl, c', ec', rfl⟩ := (show H'' = H' ∧ ∃ c, x.cps[i]? = some c ∧ v = .str ⟨#[c]⟩ from y)
    rw [ec] at ec'
    cases ec'
    subst ed
    exact ⟨Same.refl _, rfl⟩
  · have e : x.cps[i]? = none := by simpa using e
    exact Array.getElem?_eq_none_iff.mp e
theorem pi_walk {tg e : Expr} {te : TE} (he : PE X e te) : PI X tg e (fun σ H R => te σ H fun x H1 => ((∃ a, x = .ref a ∧ (∃ xs, SqL X.K H1 a xs) ∧ R (Itl X.K a) H1) ∨ ∃ a, x = .ref a ∧ (∃ xs, SqT X.K H1 a xs) ∧ R (Itt X.K a) H1) ∨ ∃ z, x = .str z ∧ R (Its z) H1) := by
  refine ⟨fun pins s σ H R I h => ?_⟩
  have go := he.run pins s σ H _ I h
  refine thn go fun v s1 ⟨x, H1, I1, r1, q1⟩ => ?_
  rcases q1 with (⟨a, e, ⟨xs, hq⟩, q⟩ | ⟨a, e, ⟨xs, hq⟩, q⟩) | ⟨z, e, q⟩
  · subst e
    cases r1
    obtain ⟨its, rv, p, hz⟩ := I1.list hq
    refine wpAny_pyIter_list p.isList ?_
    refine ⟨s1.heap.objs.size, [s1.heap.objs.size], _, _, H1, rfl, I1.kept (t' := s1.toks) fun b o e => Heap.get?_push_of_some _ e, turn_list a _, ⟨_, Heap.get?_push_size _ rfl, rfl, rfl⟩, fun b hb => ?_, q⟩
    have e : b = s1.heap.objs.size := by simpa using hb
    subst e
    exact I1.fpOk (Nat.le_refl _) (I1.hok.fresh (Nat.le_refl _))
  · subst e
    cases r1
    obtain ⟨its, rv, p, hz⟩ := I1.tuple hq
    refine wpAny_pyIter_tuple (show s1.heap.IsTuple a its.toArray from p) ?_
    refine ⟨s1.heap.objs.size, [s1.heap.objs.size], _, _, H1, rfl, I1.kept (t' := s1.toks) fun b o e => Heap.get?_push_of_some _ e, turn_tuple a _, ⟨_, Heap.get?_push_size _ rfl, rfl, rfl⟩, fun b hb => ?_, q⟩
    have e : b = s1.heap.objs.size := by simpa using hb
    subst e
    exact I1.fpOk (Nat.le_refl _) (I1.hok.fresh (Nat.le_refl _))
  · subst e
    obtain ⟨t, rfl⟩ := r1
    cases ha : z.cps.all (· < 128)
    · exact wpAny_pyIter_wide ha (pi_one (tk := s1.toks) I1 _ (turn_str _ z t "str_iterator" (.inr rfl)) ⟨_, Heap.get?_push_size _ rfl, rfl, rfl⟩ q)
    · exact wpAny_pyIter_ascii ha (pi_one (tk := s1.toks) I1 _ (turn_str _ z t "str_ascii_iterator" (.inl rfl)) ⟨_, Heap.get?_push_size _ rfl, rfl, rfl⟩ q)
def mWalk (m : Ro → W Ex D) : Ro → W Ex (List D) := fun ρ => W.bind (m ρ) walkD
theorem di_walk {tg e : Expr} {m : Ro → W Ex D} (Z : X.K = G.K) (he : DE G X Wx e m) : DI G X Wx tg e (mWalk m) := by
  refine DI.imp (fun ρ => (he.mono ρ).bind fun d => walkD_mono d) (pi_walk he.pe) fun N ρ σ H R r q => ?_
  refine he.go r q (fun x z => z) fun d v H1 z s1 r1 _ => ?_
  cases d with
  | lst ds =>
    obtain ⟨a, vs, ev, n, h, rs⟩ := r1
    exact .inl (.inl ⟨a, ev, ⟨vs, .of h⟩, z _ H1 s1 (serves_lst n h rs)⟩)
  | tup ds =>
    obtain ⟨a, vs, ev, h, rs⟩ := r1
    exact .inl (.inr ⟨a, ev, ⟨vs, Z ▸ h.sq⟩, z _ H1 s1 (Z ▸ serves_tup h rs)⟩)
  | str x => exact .inr ⟨x, r1, z _ H1 s1 serves_str⟩
  | _ => exact z.elim
end
end Fb
end

section
set_option Elab.async false
set_option linter.all false
set_option maxRecDepth 100000
set_option maxHeartbeats 4000000
/-! What the printed proofs use. -/
namespace Fb
open PySem PySem.Spec PyProof.Rows L2
section
variable {P : Program} {w : World} {G : Wd} {base : Heap} {k : Nat} {X : Cx} {Wx : WX}
def A0 : Around := { handled := none, depth := 0, units := 0, guards := some [], frames := some [] }
theorem Cz.hu (Z : Cz P w G base k X Wx) : X.A.units + 65 < cLine := by
  have := Z.room.un
  omega
theorem Cz.hu64 (Z : Cz P w G base k X Wx) : X.A.units + 64 < cLine := Nat.lt_of_succ_lt Z.hu
theorem Cz.hu1 (Z : Cz P w G base k X Wx) : X.A.units + 1 < cLine := by
  have := Z.hu
  omega
theorem Cz.blk (Z : Cz P w G base k X Wx) (s : Shared) (H : Hp) (scope : Scope) (cenv : Env) (fp : List Addr) : Cz P w G base k (X.blk s H scope cenv fp) WxF :=
  ⟨Z.P, Z.w, Z.K, Z.mg, Z.base, Z.room, Z.gd, fun u s' ⟨_, _, _, _, _, _, _, _, _, _, _, _, _, _, _, _, h⟩ => h.elim⟩
theorem cz_of {A : Around} {outer : List Env} {s : Shared} {H : Hp} {E : XK} {Ns : List Str} {qual : Str} {sc : Scope} {f : Addr} {cdv : Value} (hr : Room k (A.deeper (envOfC qual sc s.heap.objs.size f cdv))) (hg : A.guards = some []) : Cz P w G base k (cxD P w G base Ns qual sc f cdv A outer s H E) (wxD E) :=
  ⟨rfl, rfl, rfl, rfl, rfl, hr, hg, takes_of rfl rfl rfl rfl⟩
theorem room0 {env : Env} (hk : k ≤ 100) : Room k (A0.deeper env) := ⟨rfl, by show 0 + 1 + 3 * k + 5 < 1000; omega, by show 0 + 3 + 16 * k + 200 < 9900; omega⟩
/-- THE RULE: a def by its body -/
theorem fnd_ok {f : Addr} {x qual : Str} {st : Stmt} {fd : FuncData} {Ns ps : List Str} {b : En → WS} (F : Fun G.K x qual st f fd) (S : FnScope Ns ps (defScope st)) (hk : k ≤ 100)
    (body : ∀ (cdv : Value) (A : Around) (outer : List Env) (s : Shared) (H : Hp) (E : XK), Cz P w G base k (cxD P w G base Ns qual (defScope st) f cdv A outer s H E) (wxD E) →
      DSs G (cxD P w G base Ns qual (defScope st) f cdv A outer s H E) (wxD E) (defBody st) b) : FnD P w G base (k + 1) f fd ps (runBody Ns.length b) := by
  obtain ⟨oc, od, kV, doc, pm, an, cdv, ct, osl, rfl, lk, hcd⟩ := F.ex
  exact fnd_of lk hcd S (fun ρ => (body cdv A0 [] {} (fun _ => none) (fun _ _ _ => True) (cz_of (room0 hk) rfl)).mono ρ) fun A outer s H E Z => body cdv A outer s H E Z
/-- .. an __init__ with one default, () -/
structure FunI (K : PySem.W.Frag) (x qual : Str) (st : Stmt) (f : Addr) (fd : FuncData) (ed : Addr) : Prop where
  ex : ∃ (oc : Value) (od : Option Addr) (T : Addr) (oT : Obj) (nT : Nat) (kV doc pm : Value) (an : Option Addr) (cdv ct : Value) (osl : Array (Option Value)),
    fd = PySem.W.fnOf x qual (defArgs st) (defBody st) (defScope st) (.ref T) kV doc pm an cdv ct ∧ K.lookup f = some ⟨oc, od, .func fd, osl⟩ ∧ PySem.W.codeIn K cdv qual = true ∧ K.lookup T = some oT ∧ oT.data = .seq #[.ref ed] nT
  ed : ∃ (oe : Obj) (ne : Nat), K.lookup ed = some oe ∧ oe.cls = .type "tuple" ∧ oe.data = .seq #[] ne
  kp : PySem.W.keepIn K (.ref f) = true
theorem fni_ok {f C : Addr} {x qual : Str} {st : Stmt} {fd : FuncData} {Ns ps : List Str} {b : IW} {ed : Addr} (F : FunI G.K x qual st f fd ed) (S : FnScope Ns ps (defScope st)) (hk : k ≤ 100)
    (body : ∀ (cdv : Value) (A : Around) (outer : List Env) (s : Shared) (H : Hp) (E : XK), Cz P w G base k (cxD P w G base Ns qual (defScope st) f cdv A outer s H E) (wxD E) →
      DSi G (cxD P w G base Ns qual (defScope st) f cdv A outer s H E) (wxD E) C (defBody st) b) : FnI P w G base (k + 1) f fd ps C (runIni Ns.length b) := by
  obtain ⟨oc, od, T, oT, nT, kV, doc, pm, an, cdv, ct, osl, rfl, lk, hcd, _, _⟩ := F.ex
  exact fni_of lk hcd S (fun ρ => (body cdv A0 [] {} (fun _ => none) (fun _ _ _ => True) (cz_of (room0 hk) rfl)).mono ρ) fun A outer s H E Z => body cdv A outer s H E Z
theorem funI_mk {x qual : Str} {st : Stmt} {f T ed : Addr} {K : PySem.W.Frag} {oc : Value} {od an : Option Addr} {osl : Array (Option Value)} {kV doc pm cdv ct oc1 : Value} {od1 od2 : Option Addr} {n1 n2 : Nat} {sl1 sl2 : Array (Option Value)} (l : K.lookup f = some ⟨oc, od, .func (PySem.W.fnOf x qual (defArgs st) (defBody st) (defScope st) (.ref T) kV doc pm an cdv ct), osl⟩)
    (c : PySem.W.codeIn K cdv qual = true) (lT : K.lookup T = some ⟨oc1, od1, .seq #[.ref ed] n1, sl1⟩) (le : K.lookup ed = some ⟨.type "tuple", od2, .seq #[] n2, sl2⟩) (k : PySem.W.keepIn K (.ref f) = true) : FunI K x qual st f (PySem.W.fnOf x qual (defArgs st) (defBody st) (defScope st) (.ref T) kV doc pm an cdv ct) ed :=
  ⟨⟨oc, od, T, _, n1, kV, doc, pm, an, cdv, ct, osl, rfl, l, c, lT, rfl⟩, ⟨_, n2, le, rfl, rfl⟩, k⟩
theorem FunI.binds {x qual : Str} {st : Stmt} {f ed : Addr} {fd : FuncData} {ps : List Str} {K : PySem.W.Frag} (F : FunI K x qual st f fd ed)
    (h : ∀ (T : Addr) (kV doc pm : Value) (an : Option Addr) (cdv ct : Value) (us its : List Value), us.length = ps.length → its.length = 1 →
      ∃ k, bindArgs (PySem.W.fnOf x qual (defArgs st) (defBody st) (defScope st) (.ref T) kV doc pm an cdv ct) ⟨us, []⟩ = seqItems? (.ref T) >>= k ∧ k (some its.toArray) = pure (ps.zip us)) : Binds K fd ps [] := by
  obtain ⟨oc, od, T, oT, nT, kV, doc, pm, an, cdv, ct, osl, rfl, lk, hcd, lT, dT⟩ := F.ex
  intro s us X hl
  rw [List.append_nil] at hl ⊢
  obtain ⟨k, e1, e2⟩ := h T kV doc pm an cdv ct us [.ref ed] hl rfl
  refine L2.BindsTo.of_looks fun M => ?_
  rw [e1]
  exact looks_items X lT dT (.of_pure e2)
theorem FunI.binds1 {x qual : Str} {st : Stmt} {f ed : Addr} {fd : FuncData} {ps : List Str} {K : PySem.W.Frag} (F : FunI K x qual st f fd ed)
    (h : ∀ (T : Addr) (kV doc pm : Value) (an : Option Addr) (cdv ct : Value) (us its : List Value), us.length + 1 = ps.length → its.length = 1 →
      ∃ k, bindArgs (PySem.W.fnOf x qual (defArgs st) (defBody st) (defScope st) (.ref T) kV doc pm an cdv ct) ⟨us, []⟩ = seqItems? (.ref T) >>= k ∧ k (some its.toArray) = pure (ps.zip (us ++ its))) : Binds K fd ps [.ref ed] := by
  obtain ⟨oc, od, T, oT, nT, kV, doc, pm, an, cdv, ct, osl, rfl, lk, hcd, lT, dT⟩ := F.ex
  intro s us X hl
  obtain ⟨k, e1, e2⟩ := h T kV doc pm an cdv ct us [.ref ed] (by simpa using hl) rfl
  refine L2.BindsTo.of_looks fun M => ?_
  rw [e1]
  exact looks_items X lT dT (.of_pure e2)
/-- a def of the module: where it stands, what it does -/
structure FnK (P : Program) (w : World) (G : Wd) (base : Heap) (k : Nat) (x : Str) (ps : List Str) (sem : List D → Rt) : Prop where
  ex : ∃ (f : Addr) (fd : FuncData), G.mg x = some (.ref f) ∧ PySem.W.keepIn G.K (.ref f) = true ∧ Binds G.K fd ps [] ∧ FnD P w G base k f fd ps sem
/-- f(e, ..) of a def without defaults -/
theorem dr_f {x : Str} {j : Nat} {e : Expr} {es : List Expr} {p pos : Pos} {ps : List Str} {sem : List D → Rt} {m : Ro → W Ex (List D)} (Z : Cz P w G base k X Wx) (F : FnK P w G base j x ps sem) (hj : j ≤ k) (hg : Gl X x) (ha : DA G X Wx (e :: es) m) (hdb : (x == ("__debug__" : Str)) = false := by decide)
    (he : starEach (e :: es) X.env = (false, eval e X.env) :: starEach es X.env := by rfl) (hpl : (backTo pos (starEach es X.env)).any (·.1) = false := by rfl) : DR G X Wx (.Call (.Name x p) (e :: es) [] pos) (mCall ps.length sem [] m) := by
  obtain ⟨f, fd, h1, h2, h3, h4⟩ := F.ex
  exact dr_call (dvs := []) Z h4 hj h1 h2 h3 .nil (fun _ _ => rfl) hg ha hdb he hpl
/-- short names for what turns one judgement into another -/
def mDe (m : Ro → W Ex (Bool × D)) : Ro → W Ex D := fun ρ => W.bind (m ρ) fun r => W.ret r.2
def mDr (m : Ro → W Ex D) : Ro → W Ex (Bool × D) := fun ρ => W.bind (m ρ) fun d => W.ret (false, d)
theorem dde {e : Expr} {m : Ro → W Ex (Bool × D)} (h : DR G X Wx e m) : DE G X Wx e (mDe m) := h.de
theorem ddr {e : Expr} {m : Ro → W Ex D} (h : DE G X Wx e m) : DR G X Wx e (mDr m) := h.dr
theorem dv (i : Nat) {x : Str} {pos : Pos} (hN : X.N[i]? = some x := by rfl) (hv : Vis X.env.scope x := by first | exact Or.inl rfl | exact Or.inr (Or.inl rfl) | exact Or.inr (Or.inr rfl)) (hd : (x == ("__debug__" : Str)) = false := by decide) (hcd : (x == ("__classdict__" : Str)) = false := by decide) : DE G X Wx (.Name x pos) (mVar i) := de_var i (pv i hN hv hd hcd)
/-- a type of Python by its name -/
theorem dty {x : Str} {n : String} {pos : Pos} (Z : Cz P w G base k X Wx) (hg : Gl X x) (hm : G.mg x = none) (hv : bootBuiltins x = some (.type n)) (hn : x ≠ "__name__" := by decide) (hd : (x == ("__debug__" : Str)) = false := by decide) : DE G X Wx (.Name x pos) (mC (.ty n)) :=
  de_const (v := .ty n) (pe_bltn hg (Z.mg ▸ hm) hv rfl hn hd) fun _ _ => rfl
/-- a number or a text of the module -/
theorem dgi {x : Str} {i : Int} {t : Tok} {pos : Pos} (Z : Cz P w G base k X Wx) (hg : Gl X x) (hm : G.mg x = some (.int i t)) (hd : (x == ("__debug__" : Str)) = false := by decide) : DE G X Wx (.Name x pos) (mC (.int i)) :=
  de_const (v := .int i) (pe_glob hg (Z.mg ▸ hm) ⟨t, rfl⟩ hd) fun _ _ => rfl
theorem dgs {x : Str} {i : Str} {t : Tok} {pos : Pos} (Z : Cz P w G base k X Wx) (hg : Gl X x) (hm : G.mg x = some (.str i t)) (hd : (x == ("__debug__" : Str)) = false := by decide) : DE G X Wx (.Name x pos) (mC (.str i)) :=
  de_const (v := .str i) (pe_glob hg (Z.mg ▸ hm) ⟨t, rfl⟩ hd) fun _ _ => rfl
/-- what no proof comes to -/
def mNo : En → WS := fun _ => W.fail
theorem ds_no {st : Stmt} : DS G X Wx st mNo := ⟨⟨fun pins s σ H D' I ⟨_, _, _, _, q⟩ => q.elim⟩, fun _ => W.Mono.fail⟩
end
end Fb
end

section
set_option Elab.async false
set_option linter.all false
set_option maxRecDepth 100000
set_option maxHeartbeats 4000000
/-! The box of draws: opened, drawn from, closed. -/
namespace Fb
open PySem PySem.Spec PyProof.Rows L2
section
variable {X : Cx} {pins : List (Addr × Obj)} {σ : Fb.St} {H : Hp} {s : Shared} {a b : Addr}
theorem openB (I : Inv X pins σ H s) (h : H b = some (.ext (boxB b))) : ∃ ns : List Int, ns.length ≤ 100 ∧ Inv X pins σ (upd H b (.lst (ns.map V.int))) s := by
  obtain ⟨⟨ns, its, n, hl, r, e⟩, _, _⟩ := (show ObjOk X.prog X.w H s.heap b (.ext (boxB b)) from I.hok b _ h)
  refine ⟨ns, hl, I.write (x := b) (e := b) (t' := s.toks) (h' := s.heap) (by rw [h]; trivial) (.inl rfl) (fun _ _ _ q => q) ⟨_, e⟩ ⟨?_, its, n, r, e⟩⟩
  rw [List.length_map, sizeLine_eq]; omega
theorem openA (I : Inv X pins σ H s) (h : H a = some (.ext (boxA a b))) : ∃ m : Int, Inv X pins σ (upd H a (.lst [.ref b, .int m])) s := by
  obtain ⟨⟨m, its, n, r, e⟩, _, _⟩ := (show ObjOk X.prog X.w H s.heap a (.ext (boxA a b)) from I.hok a _ h)
  exact ⟨m, I.write (x := a) (e := a) (t' := s.toks) (h' := s.heap) (by rw [h]; trivial) (.inl rfl) (fun _ _ _ q => q) ⟨_, e⟩ ⟨by rw [sizeLine_eq]; show 2 ≤ _; omega, its, n, r, e⟩⟩
theorem openC (I : Inv X pins σ H s) (h : H a = some (.ext (boxC a))) : ∃ i m : Int, Inv X pins σ (upd H a (.lst [.int i, .int m])) s := by
  obtain ⟨⟨i, m, its, n, r, e⟩, _, _⟩ := (show ObjOk X.prog X.w H s.heap a (.ext (boxC a)) from I.hok a _ h)
  exact ⟨i, m, I.write (x := a) (e := a) (t' := s.toks) (h' := s.heap) (by rw [h]; trivial) (.inl rfl) (fun _ _ _ q => q) ⟨_, e⟩ ⟨by rw [sizeLine_eq]; show 2 ≤ _; omega, its, n, r, e⟩⟩
theorem closeB {ns : List Int} (I : Inv X pins σ H s) (h : H b = some (.lst (ns.map V.int))) (hl : ns.length ≤ 100) : Inv X pins σ (upd H b (.ext (boxB b))) s := by
  obtain ⟨_, its, n, r, e⟩ := (show ObjOk X.prog X.w H s.heap b (.lst (ns.map V.int)) from I.hok b _ h)
  exact I.write (x := b) (e := b) (t' := s.toks) (h' := s.heap) (by rw [h]; trivial) (.inl rfl) (fun _ _ _ q => q) ⟨_, e⟩ ⟨⟨ns, its, n, hl, r, e⟩, ⟨_, e⟩, fun h1 h2 ⟨ns, its, n, hl, r, e⟩ k => ⟨ns, its, n, hl, r, k _ e⟩⟩
theorem closeA {m : Int} (I : Inv X pins σ H s) (h : H a = some (.lst [.ref b, .int m])) : Inv X pins σ (upd H a (.ext (boxA a b))) s := by
  obtain ⟨_, its, n, r, e⟩ := (show ObjOk X.prog X.w H s.heap a (.lst [.ref b, .int m]) from I.hok a _ h)
  exact I.write (x := a) (e := a) (t' := s.toks) (h' := s.heap) (by rw [h]; trivial) (.inl rfl) (fun _ _ _ q => q) ⟨_, e⟩ ⟨⟨m, its, n, r, e⟩, ⟨_, e⟩, fun h1 h2 ⟨m, its, n, r, e⟩ k => ⟨m, its, n, r, k _ e⟩⟩
theorem closeC {i m : Int} (I : Inv X pins σ H s) (h : H a = some (.lst [.int i, .int m])) : Inv X pins σ (upd H a (.ext (boxC a))) s := by
  obtain ⟨_, its, n, r, e⟩ := (show ObjOk X.prog X.w H s.heap a (.lst [.int i, .int m]) from I.hok a _ h)
  exact I.write (x := a) (e := a) (t' := s.toks) (h' := s.heap) (by rw [h]; trivial) (.inl rfl) (fun _ _ _ q => q) ⟨_, e⟩ ⟨⟨i, m, its, n, r, e⟩, ⟨_, e⟩, fun h1 h2 ⟨i, m, its, n, r, e⟩ k => ⟨i, m, its, n, r, k _ e⟩⟩
/-- the box within: its number, its cells; all else as in H -/
structure BoxIn (H : Hp) (a b : Addr) (H' : Hp) (ns : List Int) (m : Int) : Prop where
  ne : a ≠ b
  ha : H' a = some (.lst [.ref b, .int m])
  hb : H' b = some (.lst (ns.map V.int))
  len : ns.length ≤ 100
  rest : ∀ c o, c ≠ a → c ≠ b → H c = some o → H' c = some o
/-- a block over an open box -/
theorem pss_box {sts : List Stmt} {t : TS} (h : PSs X sts t) {a b : Addr} : PSs X sts (fun D σ H => a ≠ b ∧ H a = some (.ext (boxA a b)) ∧ H b = some (.ext (boxB b)) ∧ ∀ ns m H1, BoxIn H a b H1 ns m →
    t ⟨fun _ _ => False, fun v H' => ∃ ns m, BoxIn H a b H' ns m ∧ D.rt v (upd (upd H' b (.ext (boxB b))) a (.ext (boxA a b))), fun _ _ => False, fun _ _ => False⟩ σ H1) := by
  refine ⟨fun pins s σ H D I ⟨ne, ha, hb, q⟩ => ?_⟩
  obtain ⟨ns, hl, I1⟩ := openB I hb
  obtain ⟨m, I2⟩ := openA (a := a) (b := b) I1 (by rw [upd_ne ne]; exact ha)
  have bx : BoxIn H a b (upd (upd H b (.lst (ns.map V.int))) a (.lst [.ref b, .int m])) ns m := ⟨ne, upd_same, by rw [upd_ne ne.symm, upd_same], hl, fun c o h1 h2 e => by rw [upd_ne h1, upd_ne h2]; exact e⟩
  refine thn (h.run pins s σ _ _ I2 (q ns m _ bx)) fun f s1 z => ?_
  cases f with
  | next => obtain ⟨_, _, _, z⟩ := z; exact z.elim
  | brk => obtain ⟨_, _, _, z⟩ := z; exact z.elim
  | cont => obtain ⟨_, _, _, z⟩ := z; exact z.elim
  | ret u =>
    obtain ⟨v, σ', H', I3, rv, ns', m', bx', z⟩ := z
    have I4 := closeB I3 bx'.hb bx'.len
    have I5 := closeA (a := a) (b := b) (m := m') I4 (by rw [upd_ne bx'.ne]; exact bx'.ha)
    exact ⟨v, σ', _, I5, rv, z⟩
theorem BoxIn.same {H H' : Hp} {a b : Addr} {ns : List Int} {m : Int} (x : BoxIn H a b H' ns m) (h1 : H a = some (.ext (boxA a b))) (h2 : H b = some (.ext (boxB b))) : Same H (upd (upd H' b (.ext (boxB b))) a (.ext (boxA a b))) := fun c o e => by
  by_cases ca : c = a
  · subst ca; rw [upd_same]; rw [h1] at e; exact e
  · by_cases cb : c = b
    · subst cb; rw [upd_ne ca, upd_same]; rw [h2] at e; exact e
    · rw [upd_ne ca, upd_ne cb]; exact x.rest c o ca cb e
theorem BoxIn.step {H H' H'' : Hp} {a b : Addr} {ns : List Int} {m : Int} (x : BoxIn H a b H' ns m) (s : Same H' H'') : BoxIn H a b H'' ns m := ⟨x.ne, s _ _ x.ha, s _ _ x.hb, x.len, fun c o h1 h2 e => s _ _ (x.rest c o h1 h2 e)⟩
theorem BoxIn.setB {H H' : Hp} {a b : Addr} {ns ns' : List Int} {m : Int} (x : BoxIn H a b H' ns m) (hl : ns'.length ≤ 100) : BoxIn H a b (upd H' b (.lst (ns'.map V.int))) ns' m := ⟨x.ne, by rw [upd_ne x.ne]; exact x.ha, upd_same, hl, fun c o h1 h2 e => by rw [upd_ne h2]; exact x.rest c o h1 h2 e⟩
theorem BoxIn.setA {H H' : Hp} {a b : Addr} {ns : List Int} {m m' : Int} (x : BoxIn H a b H' ns m) : BoxIn H a b (upd H' a (.lst [.ref b, .int m'])) ns m' := ⟨x.ne, upd_same, by rw [upd_ne x.ne.symm]; exact x.hb, x.len, fun c o h1 h2 e => by rw [upd_ne h1]; exact x.rest c o h1 h2 e⟩
/-- as data -/
def boxD (ns : List Int) (m : Int) : D := .lst [.lst (ns.map D.int), .int m]
theorem BoxIn.rep {G : Wd} {H H' : Hp} {a b : Addr} {ns : List Int} {m : Int} (x : BoxIn H a b H' ns m) : Rep G NT H' (boxD ns m) (.ref a) :=
  ⟨a, _, rfl, trivial, x.ha, .ref b, _, rfl, ⟨b, _, rfl, trivial, x.hb, Reps.ofInts ns⟩, .int m, [], rfl, rfl, rfl⟩
end
end Fb
end

section
set_option Elab.async false
set_option linter.all false
set_option maxRecDepth 100000
set_option maxHeartbeats 4000000
/-! A draw from the open box, read. -/
namespace Fb
open PySem PySem.Spec PyProof.Rows L2
/-! ### data -/
theorem pys_ints : ∀ ns : List Int, D.pys (ns.map D.int) = some (ns.map PyData.int)
  | [] => rfl
  | n :: r => by
    rw [List.map_cons, List.map_cons]
    unfold D.pys
    rw [pys_ints r]
    rfl
theorem lay_ints : ∀ ns : List Int, PyData.canLayAll0 (ns.map PyData.int) = true
  | [] => by simp [PyData.canLayAll0]
  | n :: r => by
    rw [List.map_cons]
    unfold PyData.canLayAll0
    rw [lay_ints r]
    simp [PyData.canLay0]
theorem shaped_ints (ns : List Int) : SeqAt.shaped (.list (ns.map PyData.int)) = true := by
  unfold SeqAt.shaped
  have h : PyData.depthAll (ns.map PyData.int) = 0 := PySem.W.depth_ints ns
  simp [PyData.canLay0, lay_ints, PyData.depth, h]
theorem deq_nil (ns : List Int) : D.deq (.lst (ns.map D.int)) (.lst []) = some ns.isEmpty := by
  have e1 : D.py (.lst (ns.map D.int)) = some (.list (ns.map PyData.int)) := by
    show (D.pys (ns.map D.int)).map PyData.list = _
    rw [pys_ints]
    rfl
  have e2 : D.py (.lst []) = some (.list []) := rfl
  unfold D.deq
  rw [e1, e2]
  show (if SeqAt.shaped (.list (ns.map PyData.int)) = true ∧ SeqAt.shaped (.list []) = true then some (PyData.eqv (.list (ns.map PyData.int)) (.list [])) else none) = _
  rw [if_pos ⟨shaped_ints ns, shaped_ints []⟩]
  cases ns with
  | nil => rfl
  | cons n r => rfl
theorem deq_int (i j : Int) : D.deq (.int i) (.int j) = some (i == j) := by rfl
def c0 : Ro → W Ex Bool := mTest (mOp (gEq true) (mOp gIx (mVar 0) (mC (.int 0))) (mDe (mLst mNil)))
def c1 : Ro → W Ex Bool := mTest (mOp (gEq false) (mOp gIx (mOp gIx (mVar 0) (mC (.int 0))) (mNeg (mC (.int 1)))) (mC (.int 0)))
theorem ev0 (ns : List Int) (m : Int) (r : Ro) : c0 (some (boxD ns m) :: r) = W.ret (!ns.isEmpty) := by
  show (W.bind (W.calm (gEq true (.lst (ns.map D.int)) (.lst []))) asB) = _
  unfold gEq
  rw [deq_nil]
  cases ns.isEmpty <;> rfl
theorem ev1 (ns : List Int) (x m : Int) (r : Ro) (h : (ns ++ [x]).length ≤ 100) : c1 (some (boxD (ns ++ [x]) m) :: r) = W.ret (x == 0) := by
  have e : atI ((ns ++ [x]).map D.int) (-1) = some (.int x) := by
    have hx : ixN ((ns ++ [x]).map D.int).length (-1) = some ns.length := by
      unfold ixN
      rw [if_neg (by decide), if_pos (by simp; omega)]
      simp
      omega
    unfold atI
    rw [hx]
    simp
  have e2 : ixD (.lst ((ns ++ [x]).map D.int)) (.int (-1)) = some (.int x) := e
  show (W.bind (W.bind (W.calm (gIx (.lst ((ns ++ [x]).map D.int)) (.int (-1)))) fun a => W.calm (gEq false a (.int 0))) asB) = _
  unfold gIx
  rw [e2]
  show (W.bind (W.calm (gEq false (.int x) (.int 0))) asB) = _
  unfold gEq
  rw [deq_int]
  cases (x == 0) <;> rfl
theorem bind_ret {ε α β : Type} (a : α) (k : α → W ε β) : W.bind (W.ret a) k = k a := rfl
def tD0 (K : PySem.W.Frag) : TE := tOp (rIxL K) (tVar 0) (tC (.int 0))
def mQ : Ro → W Ex D := mOp gFdiv (mVar 2) (mVar 1)
def mR : Ro → W Ex (Bool × D) := mDr (mOp gMod (mDe (mBlt (g1 intD) (mCons (mVar 2) mNil))) (mVar 1))
def mA : Ro → W Ex D := mOp gMod (mDe (mBlt (g1 intD) (mCons (mDe (mOpR gAdd (mOp gMul (mOp gIx (mVar 0) (mC (.int 1))) (mC (.int 48271))) (mC (.int 37)))) mNil))) (mC (.int 2147483647))
def mZ : Ro → W Ex (Bool × D) := mDr (mOp gMod (mDe (mBlt (g1 intD) (mCons (mOp gFdiv (mOp gIx (mVar 0) (mC (.int 1))) (mC (.int 8))) mNil))) (mVar 1))
def tDraw (G : Wd) (K : PySem.W.Frag) (Wx : WX) : TS :=
  tSeq (tWhile (tT G Wx (mAnd c0 c1)) (tDrop (tBM0 K "list" rPop (tD0 K)))) (tSeq (tIfS (tT G Wx c0) (tSeq (tAsg (tBM0 K "list" rPop (tD0 K)) (gName 2)) (tSeq (tDrop (tBM K "list" rAppend (tD0 K) (tCons (tE G Wx mQ) tNil))) (tRet (tR G Wx mR)))) tNext)
    (tSeq (tAsg (tE G Wx mA) (L2.gSub (tVar 0) (tC (.int 1)) rSetL)) (tRet (tR G Wx mZ))))
section
variable {G : Wd} {K : PySem.W.Frag} {Wx : WX} {H H' : Hp} {a b : Addr} {ns : List Int} {m k : Int} {σ : Fb.St}
theorem BoxIn.er (x : BoxIn H a b H' ns m) (h0 : σ[0]? = some (some (.ref a))) (h1 : σ[1]? = some (some (.int k))) : ERel G NT H' σ [some (boxD ns m), some (.int k)] := fun i d e => by
  match i, e with
  | 0, e => cases e; exact ⟨_, h0, x.rep⟩
  | 1, e => cases e; exact ⟨_, h1, rfl⟩
theorem BoxIn.er3 {r : Int} (x : BoxIn H a b H' ns m) (h0 : σ[0]? = some (some (.ref a))) (h1 : σ[1]? = some (some (.int k))) (h2 : σ[2]? = some (some (.int r))) : ERel G NT H' σ [some (boxD ns m), some (.int k), some (.int r)] := fun i d e => by
  match i, e with
  | 0, e => cases e; exact ⟨_, h0, x.rep⟩
  | 1, e => cases e; exact ⟨_, h1, rfl⟩
  | 2, e => cases e; exact ⟨_, h2, rfl⟩
theorem BoxIn.d0 {Q : VK} (x : BoxIn H a b H' ns m) (h0 : σ[0]? = some (some (.ref a))) (q : Q (.ref b) H') : tD0 K σ H' Q := ⟨_, h0, a, _, 0, .ref b, rfl, rfl, .of x.ha, rfl, q⟩
theorem tE_ret {N : Addr → Prop} {ρ : Ro} {me : Ro → W Ex D} {d : D} {Q : VK} (er : ERel G N H σ ρ) (e : me ρ = W.ret d) (h : ∀ v H', Same H H' → Rep G (Fr N H) H' d v → Q v H') : tE G Wx me σ H Q := ⟨N, ρ, er, by rw [e]; exact h⟩
theorem tR_ret {N : Addr → Prop} {ρ : Ro} {me : Ro → W Ex (Bool × D)} {d : Bool × D} {Q : VK} (er : ERel G N H σ ρ) (e : me ρ = W.ret d) (h : ∀ v H', Same H H' → Rep G (Fr N H) H' d.2 v → Q v H') : tR G Wx me σ H Q := ⟨N, ρ, er, by rw [e]; exact fun v H' s r _ => h v H' s r⟩
theorem tT_ret {N : Addr → Prop} {ρ : Ro} {me : Ro → W Ex Bool} {t : Bool} {Q : Bool → Hp → Prop} (er : ERel G N H σ ρ) (e : me ρ = W.ret t) (h : ∀ H', Same H H' → Q t H') : tT G Wx me σ H Q := ⟨N, ρ, er, by rw [e]; exact h⟩
theorem snoc_of : ∀ ns : List Int, ns = [] ∨ ∃ l x, ns = l ++ [x] := fun ns => by
  rcases List.eq_nil_or_concat ns with h | ⟨l, x, h⟩
  · exact .inl h
  · exact .inr ⟨l, x, by simpa using h⟩
theorem evQ {bd : Option D} {r : Int} (h1 : 0 < k) (h2 : k < 1000000) : mQ [bd, some (.int k), some (.int r)] = W.ret (.int (r / k)) := by
  show W.calm (if 0 < k ∧ k < 1073741824 then W.ret (D.int (r / k)) else W.fail) = _
  rw [if_pos ⟨h1, by omega⟩]
  rfl
theorem evR {bd : Option D} {r : Int} (h1 : 0 < k) : mR [bd, some (.int k), some (.int r)] = W.ret (false, .int (r % k)) := by
  show (W.bind (W.calm (if 0 < k then W.ret (D.int (r % k)) else W.fail)) fun d => W.ret (false, d)) = _
  rw [if_pos h1]
  rfl
theorem evA {r : Ro} : ∃ m', mA (some (boxD ns m) :: r) = W.ret (.int m') := by
  refine ⟨(m * 48271 + 37) % 2147483647, ?_⟩
  have e1 : gMul (.int m) (.int 48271) = W.ret (.int (m * 48271)) := by
    show (if (-(2 ^ 64) < m ∧ m < 2 ^ 64) ∨ (-(2 ^ 64) < (48271 : Int) ∧ (48271 : Int) < 2 ^ 64) then W.ret (D.int (m * 48271)) else W.fail) = _
    rw [if_pos (.inr (by decide))]
  show (W.bind (W.bind (W.bind (W.bind (W.calm (gMul (.int m) (.int 48271))) fun a => W.bind (W.calm (gAdd a (.int 37))) fun r => W.ret r.2) fun d => W.calm (g1 intD [d])) fun r => W.ret r.2) fun a => W.calm (gMod a (.int 2147483647))) = _
  rw [e1]
  rfl
theorem evZ (h1 : 0 < k) : mZ [some (boxD ns m), some (.int k)] = W.ret (false, .int ((m / 8) % k)) := by
  show (W.bind (W.bind (W.bind (W.calm (gFdiv (.int m) (.int 8))) fun d => W.bind (W.calm (g1 intD [d])) fun r => W.ret r.2) fun a => W.calm (gMod a (.int k))) fun d => W.ret (false, d)) = _
  have e1 : gFdiv (.int m) (.int 8) = W.ret (.int (m / 8)) := rfl
  rw [e1]
  show (W.bind (W.calm (if 0 < k then W.ret (D.int ((m / 8) % k)) else W.fail)) fun d => W.ret (false, d)) = _
  rw [if_pos h1]
  rfl
theorem draw_read {D' : Ends} {σ : Fb.St} (hk : 0 < k) (hk2 : k < 1000000) (h0 : σ[0]? = some (some (.ref a))) (h1 : σ[1]? = some (some (.int k))) (h2 : 2 < σ.length) (x : BoxIn H a b H' ns m)
    (q : ∀ (r : Int) ns' m' H'', 0 ≤ r → r < k → BoxIn H a b H'' ns' m' → D'.rt (.int r) H'') : tDraw G K Wx D' σ H' := by
  refine ⟨fun n σ H' => ∃ ns m, BoxIn H a b H' ns m ∧ n = ns.length ∧ σ[0]? = some (some (.ref a)) ∧ σ[1]? = some (some (.int k)) ∧ 2 < σ.length, ⟨_, ns, m, x, rfl, h0, h1, h2⟩, ?_⟩
  rintro n σ1 H1 ⟨ns1, m1, x1, rfl, g0, g1, g2⟩
  have er := x1.er (G := G) g0 g1
  -- what follows the loop
  have rest : ∀ H2, BoxIn H a b H2 ns1 m1 → (tSeq (tIfS (tT G Wx c0) (tSeq (tAsg (tBM0 K "list" rPop (tD0 K)) (gName 2)) (tSeq (tDrop (tBM K "list" rAppend (tD0 K) (tCons (tE G Wx mQ) tNil))) (tRet (tR G Wx mR)))) tNext)
    (tSeq (tAsg (tE G Wx mA) (L2.gSub (tVar 0) (tC (.int 1)) rSetL)) (tRet (tR G Wx mZ)))) D' σ1 H2 := fun H2 x2 => by
    refine tT_ret (x2.er (G := G) g0 g1) (ev0 ns1 m1 _) fun H3 s3 => ?_
    have x3 := x2.step s3
    rcases snoc_of ns1 with rfl | ⟨l, y, rfl⟩
    · -- the number moves on
      obtain ⟨m', e⟩ := evA (ns := []) (m := m1) (r := [some (.int k)])
      refine tE_ret (x3.er (G := G) g0 g1) e fun v H4 s4 r4 => ?_
      have x4 := x3.step s4
      obtain rfl : v = .int m' := r4
      refine ⟨_, g0, a, _, 1, 1, rfl, rfl, x4.ha, rfl, ?_⟩
      have x5 := x4.setA (m' := m')
      refine tR_ret (x5.er (G := G) g0 g1) (evZ hk) fun v H6 s6 r6 => ?_
      obtain rfl : v = .int ((m' / 8) % k) := r6
      exact q _ _ _ _ (Int.emod_nonneg _ (by omega)) (Int.emod_lt_of_pos _ hk) (x5.step s6)
    · -- a cell is drawn from
      have hne : (!(l ++ [y]).isEmpty) = true := by cases l <;> rfl
      show (if (!(l ++ [y]).isEmpty) = true then _ else _)
      rw [if_pos hne]
      refine x3.d0 g0 ⟨.inl ⟨rfl, _, .of x3.hb⟩, b, _, .int y, rfl, rfl, x3.hb, by simp, ?_⟩
      have hl : l.length ≤ 100 := by have := x3.len; simp at this; omega
      have x4 : BoxIn H a b (upd H3 b (.lst (l.map V.int))) l m1 := x3.setB hl
      have e4 : ((l ++ [y]).map V.int).dropLast = l.map V.int := by simp
      rw [e4]
      have f0 : (σ1.set 2 (some (V.int y)))[0]? = some (some (.ref a)) := by rw [List.getElem?_set_ne (by decide)]; exact g0
      have f1 : (σ1.set 2 (some (V.int y)))[1]? = some (some (.int k)) := by rw [List.getElem?_set_ne (by decide)]; exact g1
      have f2 : (σ1.set 2 (some (V.int y)))[2]? = some (some (.int y)) := List.getElem?_set_self g2
      refine x4.d0 f0 ⟨.inl ⟨rfl, _, .of x4.hb⟩, tE_ret (x4.er3 (G := G) f0 f1 f2) (evQ hk hk2) fun v H5 s5 r5 => ?_⟩
      have x5 := x4.step s5
      obtain rfl : v = .int (y / k) := r5
      refine ⟨b, _, .int (y / k), rfl, rfl, x5.hb, by rw [List.length_map, sizeLine_eq]; omega, ?_⟩
      have x6 : BoxIn H a b (upd H5 b (.lst ((l ++ [y / k]).map V.int))) (l ++ [y / k]) m1 := x5.setB (by have := x3.len; simpa using this)
      have e6 : l.map V.int ++ [V.int (y / k)] = (l ++ [y / k]).map V.int := by simp
      rw [e6]
      refine tR_ret (x6.er3 (G := G) f0 f1 f2) (evR hk) fun v H7 s7 r7 => ?_
      obtain rfl : v = .int (y % k) := r7
      exact q _ _ _ _ (Int.emod_nonneg _ (by omega)) (Int.emod_lt_of_pos _ hk) (x6.step s7)
  rcases snoc_of ns1 with rfl | ⟨l, y, rfl⟩
  · refine tT_ret (t := false) er (by show W.bind (c0 _) _ = _; rw [ev0]; rfl) fun H2 s2 => ?_
    exact rest H2 (x1.step s2)
  · have hne : (!(l ++ [y]).isEmpty) = true := by cases l <;> rfl
    refine tT_ret (t := (y == 0)) er (by show W.bind (c0 _) _ = _; rw [ev0, hne, bind_ret, if_pos rfl, ev1 l y m1 _ x1.len]) fun H2 s2 => ?_
    have x2 := x1.step s2
    by_cases hy : (y == 0) = true
    · rw [if_pos hy]
      refine ⟨fun σ' H' => ∃ ns m, BoxIn H a b H' ns m ∧ ns.length = l.length ∧ σ'[0]? = some (some (.ref a)) ∧ σ'[1]? = some (some (.int k)) ∧ 2 < σ'.length, fun σ' H' ⟨ns, m, w1, w2, w3⟩ => ⟨l.length, by simp, ns, m, w1, w2.symm, w3⟩, ?_⟩
      refine x2.d0 g0 ⟨.inl ⟨rfl, _, .of x2.hb⟩, b, _, .int y, rfl, rfl, x2.hb, by simp, ?_⟩
      have e4 : ((l ++ [y]).map V.int).dropLast = l.map V.int := by simp
      rw [e4]
      exact ⟨l, m1, x2.setB (by have := x2.len; simp at this; omega), rfl, g0, g1, g2⟩
    · rw [if_neg hy]
      exact rest H2 x2
variable {P : Program} {w : World} {base : Heap} {kk : Nat}
/-- a def by what its body does at once -/
theorem fnd_raw {f : Addr} {x qual : Str} {st : Stmt} {fd : FuncData} {Ns ps : List Str} {sem : List D → Rt} (F : Fun G.K x qual st f fd) (S : FnScope Ns ps (defScope st)) (hm : ∀ ds, W.Mono (sem ds))
    (body : ∀ (cdv : Value) (A : Around) (outer : List Env) (s : Shared) (H : Hp) (E : XK) (vs : List V) (ds : List D) (N : Addr → Prop) (Q : VK), Cz P w G base kk (cxD P w G base Ns qual (defScope st) f cdv A outer s H E) (wxD E) → Reps G N H ds vs → vs.length = ps.length →
      sem ds (PoR G N H Q) (fun x => ∀ c dd H', Same H H' → XRep G (Fr N H) H' x c dd → E c dd H') →
      ∃ t, PSs (cxD P w G base Ns qual (defScope st) f cdv A outer s H E) (defBody st) t ∧ t { nx := fun _ H' => Q .non H', rt := Q } (L2.start Ns vs) H) : FnD P w G base (kk + 1) f fd ps sem := by
  obtain ⟨oc, od, kV, doc, pm, an, cdv, ct, osl, rfl, lk, hcd⟩ := F.ex
  refine ⟨fun A outer s H args us vs ds N Q E hr hg e0 hb rv rd hl q => ?_, hm⟩
  exact LamX.run_ofS lk hcd S hr e0 hb rv hl fun hr' => body cdv A outer s H E vs ds N Q (cz_of hr' hg) rd hl q
end
def sem__law_draw : List D → Rt
  | [.box 0, .int m] => fun Q _ => 0 < m ∧ m < 1000000 ∧ ∀ r : Int, 0 ≤ r → r < m → Q (false, .int r)
  | _ => W.fail
theorem sem_draw_inv {ds : List D} {Q : Bool × D → Prop} {E : Ex → Prop} (h : sem__law_draw ds Q E) : ∃ m, ds = [.box 0, .int m] ∧ 0 < m ∧ m < 1000000 ∧ ∀ r : Int, 0 ≤ r → r < m → Q (false, .int r) := by
  unfold sem__law_draw at h
  split at h
  · exact ⟨_, rfl, h⟩
  · exact h.elim
theorem sem_draw_mono (ds : List D) : W.Mono (sem__law_draw ds) := by
  unfold sem__law_draw
  split
  · exact ⟨fun f _ ⟨h1, h2, h3⟩ => ⟨h1, h2, fun r h4 h5 => f _ (h3 r h4 h5)⟩⟩
  · exact W.Mono.fail
theorem fnd_draw {P : Program} {w : World} {G : Wd} {base : Heap} {kk : Nat} {f : Addr} {x qual : Str} {st : Stmt} {fd : FuncData} {p1 p2 p3 : Str} (F : Fun G.K x qual st f fd) (S : FnScope [p1, p2, p3] [p1, p2] (defScope st))
    (body : ∀ (cdv : Value) (A : Around) (outer : List Env) (s : Shared) (H : Hp) (E : XK), Cz P w G base kk (cxD P w G base [p1, p2, p3] qual (defScope st) f cdv A outer s H E) (wxD E) →
      PSs (cxD P w G base [p1, p2, p3] qual (defScope st) f cdv A outer s H E) (defBody st) (tDraw G G.K (wxD E))) : FnD P w G base (kk + 1) f fd [p1, p2] sem__law_draw := by
  refine fnd_raw F S sem_draw_mono fun cdv A outer s H E vs ds N Q Z rd hl q => ?_
  obtain ⟨m, rfl, h1, h2, q⟩ := sem_draw_inv q
  obtain ⟨v, u, rfl, ⟨a, rfl, hx⟩, r2⟩ := rd.two_inv
  obtain rfl : u = .int m := r2
  obtain ⟨b, ne, ha, hb⟩ := (show ∃ b, a ≠ b ∧ H a = some (.ext (boxA a b)) ∧ H b = some (.ext (boxB b)) from hx)
  refine ⟨_, pss_box (a := a) (b := b) (body cdv A outer s H E Z), ne, ha, hb, fun ns m' H1 x1 => draw_read h1 h2 rfl rfl (by show 2 < 3; decide) x1 fun r ns' m'' H2 g1 g2 x2 => ⟨ns', m'', x2, ?_⟩⟩
  exact q r g1 g2 _ _ (x2.same ha hb) rfl fun z => nomatch z
end Fb
end

section
set_option Elab.async false
set_option linter.all false
set_option maxRecDepth 100000
set_option maxHeartbeats 4000000
/-! x.append(y.pop(e)) -/
namespace Fb
open PySem PySem.Spec PyProof.Rows L2
def asI : D → Option Int
  | .int i => some i
  | _ => none
theorem asI_inv {d : D} {i : Int} (h : asI d = some i) : d = .int i := by
  cases d <;> first | (cases h; done) | skip
  cases h; rfl
def mAppPop (i j : Nat) (m : Ro → W Ex D) : En → WS := fun ρ => W.got (slotL ρ[i]?) fun fs => W.got (slotL ρ[j]?) fun os => if i = j then W.fail else
  W.bind (up ρ (m (ro ρ))) fun d => W.got (asI d) fun z => if 0 ≤ z ∧ z < os.length ∧ os.length ≤ sizeLine ∧ fs.length < sizeLine then W.got os[z.toNat]? fun y => W.ret (.nx, (ρ.set j (some (true, .lst (os.eraseIdx z.toNat)))).set i (some (true, .lst (fs ++ [y])))) else W.fail
theorem ite_fail {ε α : Type} {c : Prop} [Decidable c] {m : W ε α} {Q : α → Prop} {E : ε → Prop} (h : (if c then W.fail else m) Q E) : ¬ c ∧ m Q E := by
  by_cases hc : c
  · rw [if_pos hc] at h; exact h.elim
  · rw [if_neg hc] at h; exact ⟨hc, h⟩
theorem Reps.erase {G : Wd} {N : Addr → Prop} {H : Hp} : ∀ {ds : List D} {vs : List V} (n : Nat), Reps G N H ds vs → Reps G N H (ds.eraseIdx n) (vs.eraseIdx n)
  | [], _, n, h => by rw [show _ = [] from h]; exact rfl
  | _ :: _, _, 0, ⟨w, ws, e, r, rs⟩ => by subst e; exact rs
  | _ :: _, _, n + 1, ⟨w, ws, e, r, rs⟩ => by subst e; exact ⟨w, _, rfl, r, Reps.erase n rs⟩
section
variable {G : Wd} {X : Cx} {Wx : WX}
theorem ds_appPop {i j : Nat} {x y : Str} {e : Expr} {m : Ro → W Ex D} {p q apos cpos apos2 cpos2 pos : Pos} (hv : PE X (.Name x p) (tVar i)) (hw : PE X (.Name y q) (tVar j)) (he : DE G X Wx e m)
    (hs : swapsWith (.Call (.Attribute (.Name x p) "append" apos) [.Call (.Attribute (.Name y q) "pop" apos2) [e] [] cpos2] [] cpos) none pos.line X.env = pure false := by rfl)
    (hbase : attributeBase (.Name x p) "append" X.env (eval (.Name x p) X.env) = eval (.Name x p) X.env := by rfl)
    (hfew : ((backTo cpos (starEach [.Call (.Attribute (.Name y q) "pop" apos2) [e] [] cpos2] X.env)).all (fun x => !x.1) && (backToKw cpos (keywordEach [] X.env)).all (fun x => x.1.isSome)
      && decide (([.Call (.Attribute (.Name y q) "pop" apos2) [e] [] cpos2] : List Expr).length + ([] : List Keyword).length + (if ([] : List Keyword).isEmpty then 0 else 1) < 30)) = true := by rfl)
    (hline : (apos.endLine == cpos.line) = true := by rfl) (hst : starEach [.Call (.Attribute (.Name y q) "pop" apos2) [e] [] cpos2] X.env = (false, eval (.Call (.Attribute (.Name y q) "pop" apos2) [e] [] cpos2) X.env) :: starEach [] X.env := by rfl) (hplain : (backTo cpos (starEach [] X.env)).any (·.1) = false := by rfl)
    (hbase2 : attributeBase (.Name y q) "pop" X.env (eval (.Name y q) X.env) = eval (.Name y q) X.env := by rfl)
    (hfew2 : ((backTo cpos2 (starEach [e] X.env)).all (fun x => !x.1) && (backToKw cpos2 (keywordEach [] X.env)).all (fun x => x.1.isSome)
      && decide (([e] : List Expr).length + ([] : List Keyword).length + (if ([] : List Keyword).isEmpty then 0 else 1) < 30)) = true := by rfl)
    (hline2 : (apos2.endLine == cpos2.line) = true := by rfl) (hst2 : starEach [e] X.env = (false, eval e X.env) :: starEach [] X.env := by rfl) (hplain2 : (backTo cpos2 (starEach [] X.env)).any (·.1) = false := by rfl) :
    DS G X Wx (.Expr (.Call (.Attribute (.Name x p) "append" apos) [.Call (.Attribute (.Name y q) "pop" apos2) [e] [] cpos2] [] cpos) pos) (mAppPop i j m) := by
  have inner := pe_bm PySem.F.plainAttrs_list PySem.F.slot_list_pop PySem.F.type_list_pop mt_popAt hw (pa_cons he.pe pa_nil hst2) hbase2 hfew2 hline2 hst2 hplain2
  refine DS.imp (fun ρ => got_mono fun fs => got_mono fun os => ite_mono W.Mono.fail ((Mono.up (he.mono _)).bind fun d => got_mono fun _ => ite_mono (got_mono fun _ => W.Mono.ret) W.Mono.fail)) (ps_expr (pe_bm PySem.F.plainAttrs_list PySem.F.slot_list_append PySem.F.type_list_append mt_append hv (pa_cons inner pa_nil hst) hbase hfew hline hst hplain) hs) fun H0 N0 ρ σ H D' r q => ?_
  obtain ⟨S, o⟩ := r.own
  obtain ⟨fs, hfs, q⟩ := got_inv q
  obtain ⟨os, hos, q⟩ := got_inv q
  obtain ⟨hij, q⟩ := ite_fail q
  have hfs := slotL_inv hfs
  have hos := slotL_inv hos
  obtain ⟨a, ea, aS, vs, hvs, _⟩ := o.own i _ hfs
  obtain ⟨b, eb, bS, ws, hws, _⟩ := o.own j _ hos
  have hab : a ≠ b := fun z => hij (o.inj i j a aS (z ▸ bS))
  refine ⟨.ref a, ea, .inl ⟨rfl, vs, .of hvs⟩, .ref b, eb, .inl ⟨rfl, ws, .of hws⟩, he.inS r q fun d v H1 z r1 s1 rv => ?_⟩
  obtain ⟨n, hn, z2⟩ := got_inv z
  obtain ⟨⟨n0, n1, n2, n3⟩, z3⟩ := ite_ret z2
  obtain ⟨yd, hy, z4⟩ := got_inv z3
  rw [asI_inv hn] at rv
  obtain rfl : v = .int n := rv
  have o1 := o.same s1
  obtain ⟨a', ea', aS', vs', hvs', rvs⟩ := o1.own i _ hfs
  obtain ⟨b', eb', bS', ws', hws', rws⟩ := o1.own j _ hos
  rw [ea] at ea'
  rw [eb] at eb'
  cases ea'
  cases eb'
  obtain ⟨yv, hyv, ryv⟩ := rws.get' hy
  have hlw : ws'.length = os.length := rws.length
  have h63 := line63
  refine ⟨b, ws', n, n.toNat, yv, rfl, rfl, hws', by omega, by omega, by rw [hlw]; exact seqIndex_of n0 n1, hyv, ?_⟩
  have lx : LeX (Out N0 H0 S) H1 (upd H1 b (.lst (ws'.eraseIdx n.toNat))) := LeX.upd hws' trivial (Out.notS bS)
  have o2 := o1.mut hos bS (u := .lst (ws'.eraseIdx n.toNat)) (d' := .lst (os.eraseIdx n.toNat)) ⟨_, upd_same, (rws.erase _).monoX (fun _ n _ => n) lx⟩
  have hfs2 : (ρ.set j (some (true, .lst (os.eraseIdx n.toNat))))[i]? = some (some (true, .lst fs)) := by rw [List.getElem?_set_ne (Ne.symm hij)]; exact hfs
  have ha2 : upd H1 b (.lst (ws'.eraseIdx n.toNat)) a = some (.lst vs') := by rw [upd_ne hab]; exact hvs'
  refine ⟨a, vs', yv, rfl, rfl, ha2, by rw [rvs.length]; exact n3, ?_⟩
  have lx2 : LeX (Out N0 H0 S) (upd H1 b (.lst (ws'.eraseIdx n.toNat))) (upd (upd H1 b (.lst (ws'.eraseIdx n.toNat))) a (.lst (vs' ++ [yv]))) := LeX.upd ha2 trivial (Out.notS aS)
  have o3 := o2.mut hfs2 aS (u := .lst (vs' ++ [yv])) (d' := .lst (fs ++ [yd])) ⟨_, upd_same, ((rvs.app (.one ryv)).monoX (fun _ n _ => n) lx).monoX (fun _ n _ => n) lx2⟩
  exact z4 _ _ ⟨SRel.upd (SRel.upd (r.same.trans s1) o1 bS) o2 aS, by rw [List.length_set, List.length_set]; exact r.len, S, o3⟩
end
end Fb
end

section
set_option Elab.async false
set_option linter.all false
set_option maxRecDepth 100000
set_option maxHeartbeats 4000000
/-! The end: a law's def called on the script. -/
namespace Fb
open PySem PySem.Spec PyProof.Rows L2
/-- the call of the law at an abstract heap H in which nothing but the script may stand -/
theorem end_core {P : Program} {w : World} {K : PySem.W.Frag} {mg mb : Str → Option Value} {k : Nat} {fa a : Addr} {fd : FuncData} {x : Str} {sem : List D → Rt} {s₁ : Shared} {vs : List Value} {ns : List Int} {H : Hp}
    (KX : K.In s₁.heap) (hns : s₁.heap.Ns mainGlobals mg) (hb : s₁.heap.Ns builtinsNs mb) (hbb : ∀ x : Str, x ≠ "__name__" → mb x = bootBuiltins x) (hlim : s₁.heap.NoLimit) (hg : s₁.gens = #[])
    (ha : s₁.heap.get? a = some { cls := .type "list", data := .seq vs.toArray }) (hr : Room k callerA)
    (F : ∀ base : Heap, K.In base → base.Ns mainGlobals mg → FnD P w ⟨K, mg, fun _ _ _ => True⟩ base k fa fd [x] sem) (hbind : ∀ (s : Shared) (u : Value), BindsTo s fd ⟨[u], []⟩ [(x, u)])
    (hsem : sem [.scr ns] (fun r => r.2 = .bl true) fun _ => False) (hO : Only H) (hS : ScrAt K H a ns) (hok : HOk P w H s₁.heap) (hA : ∀ b, H b ≠ none → b = a) (hK : H a ≠ none → K.lookup a = none) :
    codeAny (model P w) callerA (.call (.ref fa) ⟨[.ref a], []⟩) (fun r s' => r = .ok (.ret (.bool true)) ∧ OldK s₁.heap s'.heap ∧ s'.os = s₁.os ∧ AllBare s'.gens) s₁ := by
  have hid : ∀ {b : Addr} {o : Obj}, s₁.heap.get? b = some o → H b = none → (hidT s₁.heap H).get? b = some o := fun e n => hidT_get e n
  have isA : ∀ {b : Addr} {u : HO}, H b = some u → b = a := fun {b u} q => hA b fun z => by rw [q] at z; cases z
  have dicts : ∀ {b : Addr} {o : Obj} {es : Array DictEntry} {ep : Nat}, s₁.heap.get? b = some o → o.data = .dict es ep → H b = none := fun {b o es ep} e d => by
    rcases q : H b with _ | u
    · rfl
    · have := isA q
      subst this
      rw [ha] at e
      cases e
      cases (show Data.seq vs.toArray _ = Data.dict es ep from d)
  have names : ∀ {b : Addr} {m : Str → Option Value}, s₁.heap.Ns b m → (hidT s₁.heap H).Ns b m := fun {b m} h => by
    obtain ⟨o, es, ep, e, d, r⟩ := h
    exact ⟨o, es, ep, hid e (dicts e d), d, r⟩
  have kin : K.In (hidT s₁.heap H) := fun b o e => by
    refine hid (KX b o e) ?_
    rcases q : H b with _ | u
    · rfl
    · have := isA q
      subst this
      rw [hK (by rw [q]; exact fun z => nomatch z)] at e
      cases e
  obtain ⟨mc, l1, l2⟩ := hlim
  have md : Mod K mg (hidT s₁.heap H) := ⟨kin, names hns, ⟨mb, names hb, hbb⟩, mc, names l1, l2⟩
  have e0 : Env0 P w K mg (hidT s₁.heap H) callerA [] s₁ H := ⟨rfl, md, fun b o e => of_hidT e, Nat.le_of_eq (hidT_size _ _), trivial, fun b z => (nomatch z), hok, .of_eq hg⟩
  have FF := F _ kin (names hns)
  refine codeAny_mono (FF.run callerA [] s₁ H ⟨[.ref a], []⟩ [.ref a] [.ref a] [.scr ns] NT (fun v _ => v = .bl true) (fun _ _ _ => False) hr rfl e0 (hbind s₁ (.ref a)) (.cons rfl .nil) (.one ⟨a, rfl, hS⟩) rfl
    ((FF.mono _).run (fun r z v H' s' r' _ => by rw [z] at r'; exact r') (fun _ z => z.elim) hsem)) fun r s' h => ?_
  cases r with
  | error e => exact (cx_never h).elim
  | ok fl =>
    cases fl with
    | ret u =>
      obtain ⟨v, H', os, bare, un, hok', r', q⟩ := h
      cases (show v = .bl true from q)
      cases (show u = Value.bool true from r')
      refine ⟨rfl, OldK.of_keep fun b o e => ?_, os, bare⟩
      rcases hO b with z | ⟨ob, xs, z⟩
      · exact un.keep b o e z (fun y => nomatch y) fun y => nomatch y
      · have e1 := (show ObjOk P w H s₁.heap b (.frz ob (.lst xs)) from hok b _ z).1
        have e2 := (show ObjOk P w H' s'.heap b (.frz ob (.lst xs)) from hok' b _ (un.frzs b ob _ z)).1
        rw [e] at e1
        cases e1
        exact e2
    | _ => exact False.elim h
theorem end_call {P : Program} {w : World} {K : PySem.W.Frag} {mg mb : Str → Option Value} {k : Nat} {fa a : Addr} {fd : FuncData} {x : Str} {sem : List D → Rt} {s₁ : Shared} {vs : List Value} {ns : List Int}
    (KX : K.In s₁.heap) (hns : s₁.heap.Ns mainGlobals mg) (hb : s₁.heap.Ns builtinsNs mb) (hbb : ∀ x : Str, x ≠ "__name__" → mb x = bootBuiltins x) (hlim : s₁.heap.NoLimit) (hg : s₁.gens = #[])
    (ha : s₁.heap.get? a = some { cls := .type "list", data := .seq vs.toArray }) (hi : IntsAre vs ns) (hl : ns.length ≤ sizeLine) (hr : Room k callerA)
    (F : ∀ base : Heap, K.In base → base.Ns mainGlobals mg → FnD P w ⟨K, mg, fun _ _ _ => True⟩ base k fa fd [x] sem) (hbind : ∀ (s : Shared) (u : Value), BindsTo s fd ⟨[u], []⟩ [(x, u)])
    (hsem : sem [.scr ns] (fun r => r.2 = .bl true) fun _ => False) :
    codeAny (model P w) callerA (.call (.ref fa) ⟨[.ref a], []⟩) (fun r s' => r = .ok (.ret (.bool true)) ∧ OldK s₁.heap s'.heap ∧ s'.os = s₁.os ∧ AllBare s'.gens) s₁ := by
  have rv := vals_ints hi
  rcases hk : K.lookup a with _ | o
  · refine end_core (H := fun b => if b = a then some (.frz { cls := .type "list", data := .seq vs.toArray } (.lst (ns.map V.int))) else none) KX hns hb hbb hlim hg ha hr F hbind hsem (fun b => ?_) (.inl ⟨_, if_pos rfl⟩) (fun b u z => ?_) (fun b z => ?_) fun _ => hk
    · rcases Decidable.em (b = a) with e | e
      · exact .inr ⟨_, _, if_pos e⟩
      · exact .inl (if_neg e)
    · rcases Decidable.em (b = a) with e | e
      · cases (if_pos e).symm.trans z
        subst e
        exact ⟨ha, by rw [List.length_map]; exact hl, vs, _, rv, ha⟩
      · cases (if_neg e).symm.trans z
    · rcases Decidable.em (b = a) with e | e
      · exact e
      · exact absurd (if_neg e) z
  · have e := KX a o hk
    rw [ha] at e
    cases e
    have hv := rv.length
    rw [List.length_map] at hv
    refine end_core (H := fun _ => none) KX hns hb hbb hlim hg ha hr F hbind hsem (fun _ => .inl rfl) (.inr ⟨_, vs.toArray, _, hk, rfl, rfl, rfl, by rw [List.size_toArray]; omega, rv⟩) (fun b u z => (nomatch z)) (fun b z => absurd rfl z) fun z => absurd rfl z
theorem end_walk {l : PySem.W.OpenLaw} {n k : Nat} {q : Program} {loose : List Str} {XP : (Str → Option Value) → Heap → Prop} {YP : World → Heap → Prop} {d : DefRec} {K : Params → PySem.W.Frag} {x : Str} {sem : List D → Rt}
    (hn : l.most = some n) (hn2 : n ≤ sizeLine) (hdf : d.params.defaults = []) (hr : Room k callerA) (hY : ∀ (w : World) (h : Heap), YP w h → (K w.params).In h)
    (F : ∀ (w : World) (mg : Str → Option Value) (fa : Addr) (h : Heap), (K w.params).In h → h.Ns mainGlobals mg → mg d.name = some (.ref fa) →
      ∃ fd : FuncData, (∀ (s : Shared) (u : Value), BindsTo s fd ⟨[u], []⟩ [(x, u)]) ∧ ∀ base : Heap, (K w.params).In base → base.Ns mainGlobals mg → FnD l.prog w ⟨K w.params, mg, fun _ _ _ => True⟩ base k fa fd [x] sem)
    (hsem : ∀ ns : List Int, ns.length ≤ n → sem [.scr ns] (fun r => r.2 = .bl true) fun _ => False) :
    PySem.W.WalkO q loose XP YP l.row.toRowW d [] (fun f vs => PySem.call f vs) := by
  refine Att.attach_call hn hdf fun w s₀ s₁ mg mb fa o pm cd doc a vs ns G Y ho hd hcd hmg hobj hints hlen hg => ?_
  obtain ⟨fd, hb, hF⟩ := F w mg fa _ (hY w _ Y) G.T.g hmg
  exact end_call (hY w _ Y) G.T.g G.T.b G.T.builtins G.T.nolimit hg hobj hints (Nat.le_trans hlen hn2) hr hF hb (hsem ns hlen)
end Fb
end

section
set_option Elab.async false
set_option linter.all false
set_option maxRecDepth 100000
set_option maxHeartbeats 4000000
/-! xs[::-1] -/
namespace Fb
open PySem PySem.Spec PyProof.Rows L2
theorem pick_range : ∀ (n : Nat) (l : List Value), l.length = n → (List.range n).filterMap (fun k => l[k]?) = l := by
  intro n
  induction n with
  | zero => intro l h; cases l with
    | nil => rfl
    | cons a r => cases h
  | succ n ih =>
    intro l h
    cases l with
    | nil => cases h
    | cons a r =>
      rw [List.range_succ_eq_map, List.filterMap_cons]
      show a :: _ = _
      rw [List.filterMap_map]
      congr 1
      exact ih r (by simpa using h)
theorem fm_congr {α β : Type} {f g : α → Option β} : ∀ {l : List α}, (∀ x ∈ l, f x = g x) → l.filterMap f = l.filterMap g
  | [], _ => rfl
  | x :: r, h => by
    rw [List.filterMap_cons, List.filterMap_cons, h x List.mem_cons_self, fm_congr fun y hy => h y (List.mem_cons_of_mem _ hy)]
theorem pick_rev (its : List Value) : slicePick its.toArray none none (some (-1)) = its.reverse.toArray := by
  have hb : sliceBounds none none (some (-1)) its.toArray.size = ((its.length : Int) - 1, -1, -1) := by
    simp [sliceBounds]
  unfold slicePick
  rw [hb]
  show ((sliceRange ((its.length : Int) - 1) (-1) (-1)).filterMap (its.toArray[·]?)).toArray = _
  have hr : sliceRange ((its.length : Int) - 1) (-1) (-1) = (List.range its.length).map fun (k : Nat) => its.length - 1 - k := by
    unfold sliceRange
    have hc : (if (-1 : Int) > 0 then (if (its.length : Int) - 1 < -1 then (-1 - ((its.length : Int) - 1) + -1 - 1) / -1 else 0) else (if (its.length : Int) - 1 > -1 then ((its.length : Int) - 1 - -1 - -1 - 1) / (- -1) else 0)).toNat = its.length := by
      rw [if_neg (by decide)]
      by_cases h : (its.length : Int) - 1 > -1
      · rw [if_pos h]
        have : ((its.length : Int) - 1 - -1 - -1 - 1) / (- -1) = its.length := by
          rw [show (- -1 : Int) = 1 from rfl, Int.ediv_one]
          omega
        rw [this]
        rfl
      · rw [if_neg h]
        omega
    show (List.range _).map _ = _
    rw [hc]
    apply List.map_congr_left
    intro k hk
    have := List.mem_range.mp hk
    omega
  rw [hr, List.filterMap_map]
  congr 1
  have : (List.range its.length).filterMap ((its.toArray[·]?) ∘ fun (k : Nat) => its.length - 1 - k) = (List.range its.length).filterMap fun k => its.reverse[k]? := by
    apply fm_congr
    intro k hk
    have h := List.mem_range.mp hk
    show its.toArray[its.length - 1 - k]? = _
    rw [List.getElem?_reverse h]
    simp
  rw [this]
  exact pick_range _ _ (by simp)
section
variable {G : Wd} {X : Cx} {Wx : WX}
theorem pe_rev {e st : Expr} {te : TE} {ts : TO} {p2 pos : Pos} (he : PE X e te) (hs : PO X (some st) ts) : PE X (.Subscript e (.Slice none none (some st) p2) pos) (fun σ H Q => te σ H fun x H1 => ts σ H1 fun o H2 => o = some (-1) ∧ ∃ a xs, x = .ref a ∧ SqL X.K H2 a xs ∧ ∀ p, H2 p = none → Q (.ref p) (upd H2 p (.lst xs.reverse))) := by
  refine ⟨fun pins s σ H Q I h => ?_⟩
  refine Subscript_ (thn (he.run pins s σ H _ I h) fun v s1 ⟨x, H1, I1, r1, q1⟩ => ?_)
  refine wpAny_Slice ?_
  rw [evalPart_none]
  refine wpAny_pure (wpAny_pure (thn (hs.run pins s1 σ H1 _ I1 q1) fun vs s2 ⟨o, H2, I2, po, ho, a, xs, ex, hq, q⟩ => ?_))
  subst ho ex
  cases r1
  have I3 : Inv X pins σ H2 { s2 with heap := s2.heap.push { cls := .type "slice", data := .fields #[.none, .none, vs] } } := I2.kept (t' := s2.toks) fun b ob q => Heap.get?_push_of_some _ q
  obtain ⟨its, r, ht, hz⟩ := I3.list hq
  have hlen := r.length
  refine tail_any (ops := [.ref a, .ref s2.heap.objs.size]) ht.isList.typeIs PySem.F.slot_list_getitem.lookup ?_ (by with_unfolding_all rfl)
  refine wpAny_getItem_list_slice ht.isList (Heap.IsSliceOf.new ..) .none .none po (by decide) ?_ (by rw [List.size_toArray]; omega)
  rw [pick_rev]
  refine ⟨.ref _, _, I3.laid (t' := s2.toks) (o := .lst xs.reverse) (fun b ob q => Heap.get?_push_of_some _ q) (Nat.le_refl _) ?_, rfl, q _ (I3.hok.fresh (Nat.le_refl _))⟩
  exact ⟨by rw [List.length_reverse]; exact hz, its.reverse, 0, r.reverse, Heap.get?_push_size _ rfl⟩
theorem Reps.reverse {N : Addr → Prop} {H : Hp} : ∀ {ds : List D} {vs : List V}, Reps G N H ds vs → Reps G N H ds.reverse vs.reverse
  | [], _, h => by rw [show _ = [] from h]; exact rfl
  | d :: ds, _, ⟨w, ws, e, r, rs⟩ => by
    subst e
    rw [List.reverse_cons, List.reverse_cons]
    exact (Reps.reverse rs).app (.one r)
def mRev (m : Ro → W Ex D) (s : Ro → W Ex (Option Int)) : Ro → W Ex (Bool × D) := fun ρ => W.bind (m ρ) fun d => W.bind (s ρ) fun o => if o = some (-1) then W.got (asL d) fun ds => W.ret (true, .lst ds.reverse) else W.fail
theorem dr_rev {e st : Expr} {m : Ro → W Ex D} {n : Ro → W Ex (Option Int)} {p2 pos : Pos} (he : DE G X Wx e m) (hs : DO G X Wx (some st) n) : DR G X Wx (.Subscript e (.Slice none none (some st) p2) pos) (mRev m n) := by
  refine DR.imp (fun ρ => (he.mono ρ).bind fun d => (hs.mono ρ).bind fun _ => ite_mono (got_mono fun _ => W.Mono.ret) W.Mono.fail) (pe_rev he.pe hs.po) fun N ρ σ H Q r q => ?_
  refine he.go r q (fun x z => z) fun d v H1 z s1 r1 rr1 => ?_
  refine ⟨N, ρ, rr1, (hs.mono ρ).run (fun o z H2 s2 => ?_) (fun x z => z.step s1) z⟩
  obtain ⟨ho, z⟩ := ite_ret z
  obtain ⟨ds, hd, z⟩ := got_inv z
  rw [asL_inv hd] at r1
  obtain ⟨a, vs, rfl, na, ha, rs⟩ := r1
  exact ⟨ho, a, vs, rfl, .of (s2 _ _ ha), fun p hp => new_lst (rs.same s2).reverse (PoR.step (h := z) (s1.trans s2)) p hp⟩
end
end Fb
end

section
set_option Elab.async false
set_option linter.all false
set_option maxRecDepth 100000
set_option maxHeartbeats 4000000
/-! A new box of draws. -/
namespace Fb
open PySem PySem.Spec PyProof.Rows L2
def sem__law_deal : List D → Rt
  | [.scr ns] => if ns.length ≤ 63 then W.ret (false, .box 0) else W.fail
  | _ => W.fail
theorem sem_deal_mono (ds : List D) : W.Mono (sem__law_deal ds) := by
  unfold sem__law_deal
  split
  · exact ite_mono W.Mono.ret W.Mono.fail
  · exact W.Mono.fail
theorem sem_deal_inv {ds : List D} {Q : Bool × D → Prop} {E : Ex → Prop} (h : sem__law_deal ds Q E) : ∃ ns : List Int, ds = [.scr ns] ∧ ns.length ≤ 63 ∧ Q (false, .box 0) := by
  unfold sem__law_deal at h
  split at h
  · obtain ⟨h1, h2⟩ := ite_ret h
    exact ⟨_, rfl, h1, h2⟩
  · exact h.elim
theorem Reps.asInts {G : Wd} {N : Addr → Prop} {H : Hp} : ∀ {ns : List Int} {vs : List V}, Reps G N H (ns.map D.int) vs → vs = ns.map V.int
  | [], _, h => h
  | n :: r, _, ⟨w, ws, e, rw', rs⟩ => by rw [e, show w = V.int n from rw', Reps.asInts rs]; rfl
/-- the lists of the box become loosely known -/
theorem HOk.loose {P : Program} {w : World} {H : Hp} {h : Heap} {a b : Addr} {cells : List Int} {m : Int} (ok : HOk P w H h) (ne : a ≠ b) (ha : H a = some (.lst [.ref b, .int m])) (hb : H b = some (.lst (cells.map V.int))) (hl : cells.length ≤ 100) :
    HOk P w (upd (upd H b (.ext (boxB b))) a (.ext (boxA a b))) h := by
  obtain ⟨_, itb, nb, rb, eb⟩ := (show ObjOk P w H h b (.lst (cells.map V.int)) from ok b _ hb)
  obtain ⟨_, ita, na, ra, ea⟩ := (show ObjOk P w H h a (.lst [.ref b, .int m]) from ok a _ ha)
  have o1 : HOk P w (upd H b (.ext (boxB b))) h := HOk.write (x := b) (e := b) ok (by rw [hb]; trivial) (.inl rfl) (fun _ _ _ q => q) ⟨_, eb⟩ ⟨⟨cells, itb, nb, hl, rb, eb⟩, ⟨_, eb⟩, fun h1 h2 ⟨ns, its, n, hl, r, e⟩ k => ⟨ns, its, n, hl, r, k _ e⟩⟩
  exact HOk.write (x := a) (e := a) o1 (by rw [upd_ne ne, ha]; trivial) (.inl rfl) (fun _ _ _ q => q) ⟨_, ea⟩ ⟨⟨m, ita, na, ra, ea⟩, ⟨_, ea⟩, fun h1 h2 ⟨m, its, n, r, e⟩ k => ⟨m, its, n, r, k _ e⟩⟩
theorem Un.loose {fs : List Addr} {H H' : Hp} {h h' : Heap} {a b : Addr} {ua ub va vb : HO} (u : Un fs [] H H' h h') (ha : H' a = some ua) (hb : H' b = some ub) (na : H a = none) (nb : H b = none) : Un fs [] H (upd (upd H' b vb) a va) h h' := by
  have neq : ∀ c o, H c = some o → c ≠ a ∧ c ≠ b := fun c o e => ⟨fun z => (by rw [z, na] at e; cases e), fun z => (by rw [z, nb] at e; cases e)⟩
  refine ⟨u.keep, u.slot, fun c o e n hx => ?_, u.there, fun c xs e => ?_, fun c o x e => ?_, fun c ps e => ?_⟩
  · have z := u.free c o e n hx
    have ca : c ≠ a := fun y => by rw [y, ha] at z; cases z
    have cb : c ≠ b := fun y => by rw [y, hb] at z; cases z
    rw [upd_ne ca, upd_ne cb]; exact z
  · rw [upd_ne (neq c _ e).1, upd_ne (neq c _ e).2]; exact u.tups c xs e
  · rw [upd_ne (neq c _ e).1, upd_ne (neq c _ e).2]; exact u.frzs c o x e
  · rw [upd_ne (neq c _ e).1, upd_ne (neq c _ e).2]; exact u.tbls c ps e
theorem box_of {P : Program} {w : World} {G : Wd} {base : Heap} {k : Nat} {x p : Str} {sem : List D → Rt} (F : FnK P w G base k x [p] sem)
    (hs : ∀ (ns : List Int), ns.length ≤ 63 → ∀ (Q : Bool × D → Prop) (E : Ex → Prop), (∀ (cells : List Int) (m : Int), cells.length ≤ 100 → Q (true, .lst [.lst (cells.map D.int), .int m])) → sem [.scr ns] Q E) : FnK P w G base k x [p] sem__law_deal := by
  obtain ⟨f, fd, h1, h2, h3, F⟩ := F.ex
  refine ⟨f, fd, h1, h2, h3, ⟨fun A outer s H args us vs ds N Q E hr hg e0 hb rv rd hl q => ?_, sem_deal_mono⟩⟩
  obtain ⟨ns, rfl, hns, q⟩ := sem_deal_inv q
  obtain ⟨v, rfl, a0, rfl, hsc⟩ := rd.one_inv
  have go := F.run A outer s H args us [.ref a0] [.scr ns] (fun _ => False) (fun v H' => ∃ (a b : Addr) (cells : List Int) (m : Int), v = .ref a ∧ a ≠ b ∧ H a = none ∧ H b = none ∧ H' a = some (.lst [.ref b, .int m]) ∧ H' b = some (.lst (cells.map V.int)) ∧ cells.length ≤ 100 ∧ Same H H') (fun _ _ _ => False) hr hg e0 hb rv (.one ⟨a0, rfl, hsc⟩) hl
    (hs ns hns _ _ fun cells m hc v H' s' r' f' => by
      obtain ⟨a, vs, ev, n, hv, v1, ws, e1, ⟨b, ws2, e2, n2, hb2, rb⟩, v2, ws3, e3, rm, e4⟩ := r'
      subst e1 e2 e3
      obtain rfl : v2 = .int m := rm
      rw [show ws3 = [] from e4] at hv
      rw [rb.asInts] at hb2
      have na : H a = none := n.elim (fun z => z.elim) id
      have nb : H b = none := n2.elim (fun z => z.elim) id
      refine ⟨a, b, cells, m, ev, fun z => ?_, na, nb, hv, hb2, hc, s'⟩
      subst z
      rw [hv] at hb2
      cases cells with
      | nil => cases hb2
      | cons c r => cases hb2)
  refine codeAny_mono go fun r s' h => ?_
  cases r with
  | error e => exact (cx_never h).elim
  | ok fl =>
    cases fl with
    | ret u =>
      obtain ⟨v, H', os, bare, un, hok, r', a, b, cells, m, rfl, ne, na, nb, ha, hb', hc, sm⟩ := h
      refine ⟨.ref a, _, os, bare, Un.loose (va := .ext (boxA a b)) (vb := .ext (boxB b)) un ha hb' na nb, HOk.loose hok ne ha hb' hc, r', q (.ref a) _ (fun c o e => ?_) ⟨a, rfl, ?_⟩ fun z => nomatch z⟩
      · rw [upd_ne (ne_of_none e na), upd_ne (ne_of_none e nb)]; exact sm c o e
      · exact (show BoxAt _ 0 a from ⟨b, ne, upd_same, by rw [upd_ne ne.symm, upd_same]⟩)
    | _ => exact False.elim h
end Fb
end

section
set_option Elab.async false
set_option linter.all false
set_option maxRecDepth 100000
set_option maxHeartbeats 4000000
/-! Programs over data, run: loops and blocks. -/
namespace Fb
open PySem PySem.Spec PyProof.Rows L2
/-- a block whose parts are plain -/
theorem lcN_map {p : D → Option (List (Nat × D))} {c : Ro → W Ex Bool} {e : Ro → W Ex D} {ρ : Ro} (t : D → Bool) (f : D → D) : ∀ {xs : List D}, (∀ x ∈ xs, ∃ bs, p x = some bs ∧ c (setR ρ bs) = W.ret (t x) ∧ (t x = true → e (setR ρ bs) = W.ret (f x))) → lcN p c e ρ xs = W.ret ((xs.filter t).map f)
  | [], _ => rfl
  | x :: xs, h => by
    obtain ⟨bs, h1, h2, h3⟩ := h x List.mem_cons_self
    have ih := lcN_map t f (xs := xs) fun y hy => h y (List.mem_cons_of_mem _ hy)
    unfold lcN
    rw [h1]
    show (W.bind (W.calm (c (setR ρ bs))) fun b => if b = true then W.bind (W.calm (e (setR ρ bs))) fun y => W.bind (lcN p c e ρ xs) fun ys => W.ret (y :: ys) else lcN p c e ρ xs) = _
    rw [h2, ih]
    show (if t x = true then W.bind (W.calm (e (setR ρ bs))) fun y => W.bind (W.ret ((xs.filter t).map f)) fun ys => W.ret (y :: ys) else W.ret ((xs.filter t).map f)) = _
    cases ht : t x with
    | true =>
      rw [if_pos rfl, h3 ht, List.filter_cons, if_pos ht]
      rfl
    | false =>
      rw [if_neg Bool.false_ne_true, List.filter_cons, if_neg (by rw [ht]; exact Bool.false_ne_true)]
/-- .. without tests -/
theorem lcN_all {p : D → Option (List (Nat × D))} {e : Ro → W Ex D} {ρ : Ro} (f : D → D) {xs : List D} (h : ∀ x ∈ xs, ∃ bs, p x = some bs ∧ e (setR ρ bs) = W.ret (f x)) : lcN p mYes e ρ xs = W.ret (xs.map f) := by
  rw [lcN_map (fun _ => true) f fun x hx => let ⟨bs, h1, h2⟩ := h x hx; ⟨bs, h1, rfl, fun _ => h2⟩]
  congr 2
  exact List.filter_eq_self.mpr fun _ _ => rfl
/-- a loop by what stays true: I of the items left and the slots -/
theorem forN_inv {p : D → Option (List (Nat × D))} {b : En → WS} (hb : ∀ ρ, W.Mono (b ρ)) {Q : Fl × En → Prop} {E : Ex × En → Prop} (I : List D → En → Prop)
    (step : ∀ d ds ρ, I (d :: ds) ρ → ∃ bs, p d = some bs ∧ b (setE ρ bs) (fun q => (q.1 = .nx ∨ q.1 = .ct) ∧ I ds q.2) fun _ => False) (done : ∀ ρ, I [] ρ → Q (.nx, ρ)) : ∀ {ds : List D} {ρ : En}, I ds ρ → forN p b ds ρ Q E
  | [], ρ, h => done ρ h
  | d :: ds, ρ, h => by
    obtain ⟨bs, h1, h2⟩ := step d ds ρ h
    unfold forN
    rw [h1]
    refine (hb _).run (fun q z => ?_) (fun _ z => z.elim) h2
    obtain ⟨f, ρ'⟩ := q
    obtain ⟨hf, hi⟩ := z
    rcases hf with hf | hf
    · cases hf; exact forN_inv hb I step done hi
    · cases hf; exact forN_inv hb I step done hi
theorem cutD_ints (ns : List Int) (lo hi : Option Int) : ∃ l : List Int, cutD (ns.map D.int) lo hi = l.map D.int ∧ l.length ≤ ns.length := by
  refine ⟨(ns.drop (HT.sIx (ns.map D.int).length 0 lo)).take (HT.sIx (ns.map D.int).length (ns.map D.int).length hi - HT.sIx (ns.map D.int).length 0 lo), ?_, ?_⟩
  · unfold cutD
    rw [List.map_take, List.map_drop]
  · rw [List.length_take, List.length_drop]; omega
end Fb
end

section
set_option Elab.async false
set_option linter.all false
set_option maxRecDepth 100000
set_option maxHeartbeats 4000000
/-! The box of two numbers: opened, drawn from, closed. -/
namespace Fb
open PySem PySem.Spec PyProof.Rows L2
section
variable {X : Cx}
/-- the box within: its numbers; all else as in H -/
structure BoxIC (H : Hp) (a : Addr) (H' : Hp) (i m : Int) : Prop where
  ha : H' a = some (.lst [.int i, .int m])
  rest : ∀ c o, c ≠ a → H c = some o → H' c = some o
theorem pss_boxC {sts : List Stmt} {t : TS} (h : PSs X sts t) {a : Addr} : PSs X sts (fun D σ H => H a = some (.ext (boxC a)) ∧ ∀ i m H1, BoxIC H a H1 i m →
    t ⟨fun _ _ => False, fun v H' => ∃ i m, BoxIC H a H' i m ∧ D.rt v (upd H' a (.ext (boxC a))), fun _ _ => False, fun _ _ => False⟩ σ H1) := by
  refine ⟨fun pins s σ H D I ⟨ha, q⟩ => ?_⟩
  obtain ⟨i, m, I1⟩ := openC I ha
  have bx : BoxIC H a (upd H a (.lst [.int i, .int m])) i m := ⟨upd_same, fun c o h1 e => by rw [upd_ne h1]; exact e⟩
  refine thn (h.run pins s σ _ _ I1 (q i m _ bx)) fun f s1 z => ?_
  cases f with
  | next => obtain ⟨_, _, _, z⟩ := z; exact z.elim
  | brk => obtain ⟨_, _, _, z⟩ := z; exact z.elim
  | cont => obtain ⟨_, _, _, z⟩ := z; exact z.elim
  | ret u =>
    obtain ⟨v, σ', H', I3, rv, i', m', bx', z⟩ := z
    exact ⟨v, σ', _, closeC I3 bx'.ha, rv, z⟩
variable {H H' H'' : Hp} {a : Addr} {i m k : Int}
theorem BoxIC.same (x : BoxIC H a H' i m) (h1 : H a = some (.ext (boxC a))) : Same H (upd H' a (.ext (boxC a))) := fun c o e => by
  by_cases ca : c = a
  · subst ca; rw [upd_same]; rw [h1] at e; exact e
  · rw [upd_ne ca]; exact x.rest c o ca e
theorem BoxIC.step (x : BoxIC H a H' i m) (s : Same H' H'') : BoxIC H a H'' i m := ⟨s _ _ x.ha, fun c o h1 e => s _ _ (x.rest c o h1 e)⟩
theorem BoxIC.set (x : BoxIC H a H' i m) {i' m' : Int} : BoxIC H a (upd H' a (.lst [.int i', .int m'])) i' m' := ⟨upd_same, fun c o h1 e => by rw [upd_ne h1]; exact x.rest c o h1 e⟩
def boxCD (i m : Int) : D := .lst [.int i, .int m]
theorem BoxIC.rep {G : Wd} (x : BoxIC H a H' i m) : Rep G NT H' (boxCD i m) (.ref a) := ⟨a, _, rfl, trivial, x.ha, .int i, _, rfl, rfl, .int m, [], rfl, rfl, rfl⟩
end
/-! ### a draw -/
section
variable (k1 k2 k3 k4 k5 k6 k7 k8 : Int)
def cGt : Ro → W Ex Bool := mTest (mOp gGt (mOp gIx (mVar 0) (mC (.int 0))) (mC (.int 0)))
def mDig : Ro → W Ex D := mOp gMod (mDe (mBlt (g1 intD) (mCons (mOp gIx (mVar 0) (mC (.int 0))) mNil))) (mVar 1)
def mQuo : Ro → W Ex D := mOp gFdiv (mOp gIx (mVar 0) (mC (.int 0))) (mVar 1)
def mRaw : Ro → W Ex D := mOp gMod (mDe (mBlt (g1 intD) (mCons (mDe (mOpR gAdd (mOp gMul (mOp gIx (mVar 0) (mC (.int 1))) (mC (.int k1))) (mC (.int k2)))) mNil))) (mC (.int k3))
def mNxt : Ro → W Ex D := mDe (mOpR gAdd (mOp gMod (mDe (mBlt (g1 intD) (mCons (mDe (mOpR gAdd (mOp gMul (mVar 3) (mC (.int k4))) (mC (.int k5)))) mNil))) (mC (.int k6))) (mC (.int 1)))
def mEnd : Ro → W Ex (Bool × D) := mDr (mOp gMod (mDe (mBlt (g1 intD) (mCons (mOp gFdiv (mDe (mOpR gAdd (mOp gMul (mVar 3) (mC (.int k7))) (mOp gIx (mVar 0) (mC (.int 1))))) (mC (.int k8))) mNil))) (mVar 1))
def tChoose (G : Wd) (K : PySem.W.Frag) (Wx : WX) : TS :=
  tSeq (tIfS (tT G Wx cGt) (tSeq (tAsg (tE G Wx mDig) (gName 2)) (tSeq (tAsg (tE G Wx mQuo) (L2.gSub (tVar 0) (tC (.int 0)) rSetL)) (tRet (tR G Wx (mDr (mVar 2)))))) tNext)
    (tSeq (tAsg (tE G Wx (mRaw k1 k2 k3)) (gName 3)) (tSeq (tAsg (tE G Wx (mNxt k4 k5 k6)) (L2.gSub (tVar 0) (tC (.int 1)) rSetL)) (tRet (tR G Wx (mEnd k7 k8)))))
end
section
variable {G : Wd} {K : PySem.W.Frag} {Wx : WX} {H H' : Hp} {a : Addr} {i m k : Int} {σ : Fb.St} {k1 k2 k3 k4 k5 k6 k7 k8 : Int}
theorem BoxIC.er (x : BoxIC H a H' i m) (h0 : σ[0]? = some (some (.ref a))) (h1 : σ[1]? = some (some (.int k))) : ERel G NT H' σ [some (boxCD i m), some (.int k)] := fun j d e => by
  match j, e with
  | 0, e => cases e; exact ⟨_, h0, x.rep⟩
  | 1, e => cases e; exact ⟨_, h1, rfl⟩
theorem BoxIC.er2 {r : Int} (x : BoxIC H a H' i m) (h0 : σ[0]? = some (some (.ref a))) (h1 : σ[1]? = some (some (.int k))) (h2 : σ[2]? = some (some (.int r))) : ERel G NT H' σ [some (boxCD i m), some (.int k), some (.int r)] := fun j d e => by
  match j, e with
  | 0, e => cases e; exact ⟨_, h0, x.rep⟩
  | 1, e => cases e; exact ⟨_, h1, rfl⟩
  | 2, e => cases e; exact ⟨_, h2, rfl⟩
theorem BoxIC.er3 {r : Int} (x : BoxIC H a H' i m) (h0 : σ[0]? = some (some (.ref a))) (h1 : σ[1]? = some (some (.int k))) (h3 : σ[3]? = some (some (.int r))) : ERel G NT H' σ [some (boxCD i m), some (.int k), none, some (.int r)] := fun j d e => by
  match j, e with
  | 0, e => cases e; exact ⟨_, h0, x.rep⟩
  | 1, e => cases e; exact ⟨_, h1, rfl⟩
  | 2, e => cases e
  | 3, e => cases e; exact ⟨_, h3, rfl⟩
theorem ev_gt (r : Ro) : cGt (some (boxCD i m) :: r) = W.ret (decide (0 < i)) := rfl
theorem mod_pos {a b : Int} (h : 0 < b) : gMod (.int a) (.int b) = W.ret (.int (a % b)) := by
  show (if 0 < b then W.ret (D.int (a % b)) else W.fail) = _
  rw [if_pos h]
theorem mul_sm {a b : Int} (h : -(2 ^ 64) < b ∧ b < 2 ^ 64) : gMul (.int a) (.int b) = W.ret (.int (a * b)) := by
  show (if (-(2 ^ 64) < a ∧ a < 2 ^ 64) ∨ (-(2 ^ 64) < b ∧ b < 2 ^ 64) then W.ret (D.int (a * b)) else W.fail) = _
  rw [if_pos (.inr h)]
theorem fdiv_sm {a b : Int} (h : 0 < b ∧ b < 1073741824) : gFdiv (.int a) (.int b) = W.ret (.int (a / b)) := by
  show (if 0 < b ∧ b < 1073741824 then W.ret (D.int (a / b)) else W.fail) = _
  rw [if_pos h]
theorem ev_dig (h : 0 < k) : mDig [some (boxCD i m), some (.int k)] = W.ret (.int (i % k)) := by
  show W.calm (gMod (.int i) (.int k)) = _
  rw [mod_pos h]; rfl
theorem ev_quo (h : 0 < k ∧ k < 1073741824) : mQuo [some (boxCD i m), some (.int k), none] = W.ret (.int (i / k)) := by
  show W.calm (gFdiv (.int i) (.int k)) = _
  rw [fdiv_sm ⟨h.1, by omega⟩]; rfl
theorem ev_quo3 {d : Int} (h : 0 < k ∧ k < 1073741824) : mQuo [some (boxCD i m), some (.int k), some (.int d)] = W.ret (.int (i / k)) := by
  show W.calm (gFdiv (.int i) (.int k)) = _
  rw [fdiv_sm ⟨h.1, by omega⟩]; rfl
theorem ev_raw (h1 : -(2 ^ 64) < k1 ∧ k1 < 2 ^ 64) (h3 : 0 < k3) (r : Ro) : mRaw k1 k2 k3 (some (boxCD i m) :: r) = W.ret (.int ((m * k1 + k2) % k3)) := by
  show (W.bind (W.bind (W.bind (W.bind (W.calm (gMul (.int m) (.int k1))) fun a => W.bind (W.calm (gAdd a (.int k2))) fun r => W.ret r.2) fun d => W.calm (g1 intD [d])) fun r => W.ret r.2) fun a => W.calm (gMod a (.int k3))) = _
  rw [mul_sm h1]
  show W.calm (gMod (.int (m * k1 + k2)) (.int k3)) = _
  rw [mod_pos h3]; rfl
theorem ev_nxt {r : Int} (h4 : -(2 ^ 64) < k4 ∧ k4 < 2 ^ 64) (h6 : 0 < k6) : mNxt k4 k5 k6 [some (boxCD i m), some (.int k), none, some (.int r)] = W.ret (.int ((r * k4 + k5) % k6 + 1)) := by
  show (W.bind (W.bind (W.bind (W.bind (W.bind (W.bind (W.calm (gMul (.int r) (.int k4))) fun a => W.bind (W.calm (gAdd a (.int k5))) fun r => W.ret r.2) fun d => W.calm (g1 intD [d])) fun r => W.ret r.2) fun a => W.calm (gMod a (.int k6))) fun a => W.calm (gAdd a (.int 1))) fun r => W.ret r.2) = _
  rw [mul_sm h4]
  show (W.bind (W.bind (W.calm (gMod (.int (r * k4 + k5)) (.int k6))) fun a => W.calm (gAdd a (.int 1))) fun r => W.ret r.2) = _
  rw [mod_pos h6]; rfl
theorem ev_end {r : Int} (h : 0 < k) (h7 : -(2 ^ 64) < k7 ∧ k7 < 2 ^ 64) (h8 : 0 < k8 ∧ k8 < 1073741824) : mEnd k7 k8 [some (boxCD i m), some (.int k), none, some (.int r)] = W.ret (false, .int ((r * k7 + m) / k8 % k)) := by
  show (W.bind (W.bind (W.bind (W.bind (W.bind (W.bind (W.bind (W.calm (gMul (.int r) (.int k7))) fun a => W.calm (gAdd a (.int m))) fun r => W.ret r.2) fun a => W.calm (gFdiv a (.int k8))) fun d => W.calm (g1 intD [d])) fun r => W.ret r.2) fun a => W.calm (gMod a (.int k))) fun d => W.ret (false, d)) = _
  rw [mul_sm h7]
  show (W.bind (W.bind (W.bind (W.bind (W.calm (gFdiv (.int (r * k7 + m)) (.int k8))) fun d => W.calm (g1 intD [d])) fun r => W.ret r.2) fun a => W.calm (gMod a (.int k))) fun d => W.ret (false, d)) = _
  rw [fdiv_sm h8]
  show (W.bind (W.calm (gMod (.int ((r * k7 + m) / k8)) (.int k))) fun d => W.ret (false, d)) = _
  rw [mod_pos h]; rfl
/-- what the numbers of a draw must be -/
def goodK (k1 k3 k4 k6 k7 k8 : Int) : Prop := (-(2 ^ 64) < k1 ∧ k1 < 2 ^ 64) ∧ 0 < k3 ∧ (-(2 ^ 64) < k4 ∧ k4 < 2 ^ 64) ∧ 0 < k6 ∧ (-(2 ^ 64) < k7 ∧ k7 < 2 ^ 64) ∧ 0 < k8 ∧ k8 < 1073741824
theorem choose_read {D' : Ends} {σ : Fb.St} (hk : 0 < k) (hk2 : k < 1073741824) (gk : goodK k1 k3 k4 k6 k7 k8) (h0 : σ[0]? = some (some (.ref a))) (h1 : σ[1]? = some (some (.int k))) (h3 : 3 < σ.length) (x : BoxIC H a H' i m)
    (q : ∀ (r : Int) i' m' H'', 0 ≤ r → r < k → BoxIC H a H'' i' m' → D'.rt (.int r) H'') : tChoose k1 k2 k3 k4 k5 k6 k7 k8 G K Wx D' σ H' := by
  obtain ⟨g1, g3, g4, g6, g7, g8⟩ := gk
  have h2 : 2 < σ.length := by omega
  refine tT_ret (x.er (G := G) h0 h1) (ev_gt (i := i) (m := m) _) fun H2 s2 => ?_
  have x2 := x.step s2
  by_cases hi : (decide (0 < i)) = true
  · rw [if_pos hi]
    refine tE_ret (x2.er (G := G) h0 h1) (ev_dig hk) fun v H3 s3 r3 => ?_
    have x3 := x2.step s3
    obtain rfl : v = .int (i % k) := r3
    have f0 : (σ.set 2 (some (V.int (i % k))))[0]? = some (some (.ref a)) := by rw [List.getElem?_set_ne (by decide)]; exact h0
    have f1 : (σ.set 2 (some (V.int (i % k))))[1]? = some (some (.int k)) := by rw [List.getElem?_set_ne (by decide)]; exact h1
    have f2 : (σ.set 2 (some (V.int (i % k))))[2]? = some (some (.int (i % k))) := List.getElem?_set_self h2
    refine tE_ret (x3.er2 (G := G) f0 f1 f2) (ev_quo3 ⟨hk, hk2⟩) fun v H4 s4 r4 => ?_
    have x4 := x3.step s4
    obtain rfl : v = .int (i / k) := r4
    refine ⟨_, f0, a, _, 0, 0, rfl, rfl, x4.ha, rfl, ?_⟩
    have x5 := x4.set (i' := i / k) (m' := m)
    refine tR_ret (ρ := [some (boxCD (i / k) m), some (.int k), some (.int (i % k))]) (d := (false, .int (i % k))) (x5.er2 (G := G) f0 f1 f2) rfl fun v H6 s6 r6 => ?_
    obtain rfl : v = .int (i % k) := r6
    exact q _ _ _ _ (Int.emod_nonneg _ (by omega)) (Int.emod_lt_of_pos _ hk) (x5.step s6)
  · rw [if_neg hi]
    refine tE_ret (x2.er (G := G) h0 h1) (ev_raw g1 g3 _) fun v H3 s3 r3 => ?_
    have x3 := x2.step s3
    obtain rfl : v = .int ((m * k1 + k2) % k3) := r3
    generalize (m * k1 + k2) % k3 = r
    have f0 : (σ.set 3 (some (V.int r)))[0]? = some (some (.ref a)) := by rw [List.getElem?_set_ne (by decide)]; exact h0
    have f1 : (σ.set 3 (some (V.int r)))[1]? = some (some (.int k)) := by rw [List.getElem?_set_ne (by decide)]; exact h1
    have f3 : (σ.set 3 (some (V.int r)))[3]? = some (some (.int r)) := List.getElem?_set_self h3
    refine tE_ret (x3.er3 (G := G) f0 f1 f3) (ev_nxt g4 g6) fun v H4 s4 r4 => ?_
    have x4 := x3.step s4
    obtain rfl : v = .int ((r * k4 + k5) % k6 + 1) := r4
    refine ⟨_, f0, a, _, 1, 1, rfl, rfl, x4.ha, rfl, ?_⟩
    have x5 := x4.set (i' := i) (m' := (r * k4 + k5) % k6 + 1)
    refine tR_ret (x5.er3 (G := G) f0 f1 f3) (ev_end hk g7 g8) fun v H6 s6 r6 => ?_
    obtain rfl := (show v = .int _ from r6)
    exact q _ _ _ _ (Int.emod_nonneg _ (by omega)) (Int.emod_lt_of_pos _ hk) (x5.step s6)
end
def sem__law_choose : List D → Rt
  | [.box 1, .int m] => fun Q _ => 0 < m ∧ m < 1073741824 ∧ ∀ r : Int, 0 ≤ r → r < m → Q (false, .int r)
  | _ => W.fail
theorem sem_choose_inv {ds : List D} {Q : Bool × D → Prop} {E : Ex → Prop} (h : sem__law_choose ds Q E) : ∃ m, ds = [.box 1, .int m] ∧ 0 < m ∧ m < 1073741824 ∧ ∀ r : Int, 0 ≤ r → r < m → Q (false, .int r) := by
  unfold sem__law_choose at h
  split at h
  · exact ⟨_, rfl, h⟩
  · exact h.elim
theorem sem_choose_mono (ds : List D) : W.Mono (sem__law_choose ds) := by
  unfold sem__law_choose
  split
  · exact ⟨fun f _ ⟨h1, h2, h3⟩ => ⟨h1, h2, fun r h4 h5 => f _ (h3 r h4 h5)⟩⟩
  · exact W.Mono.fail
theorem fnd_choose {P : Program} {w : World} {G : Wd} {base : Heap} {kk : Nat} {f : Addr} {x qual : Str} {st : Stmt} {fd : FuncData} {p1 p2 p3 p4 : Str} (k1 k2 k3 k4 k5 k6 k7 k8 : Int) (gk : goodK k1 k3 k4 k6 k7 k8) (F : Fun G.K x qual st f fd) (S : FnScope [p1, p2, p3, p4] [p1, p2] (defScope st))
    (body : ∀ (cdv : Value) (A : Around) (outer : List Env) (s : Shared) (H : Hp) (E : XK), Cz P w G base kk (cxD P w G base [p1, p2, p3, p4] qual (defScope st) f cdv A outer s H E) (wxD E) →
      PSs (cxD P w G base [p1, p2, p3, p4] qual (defScope st) f cdv A outer s H E) (defBody st) (tChoose k1 k2 k3 k4 k5 k6 k7 k8 G G.K (wxD E))) : FnD P w G base (kk + 1) f fd [p1, p2] sem__law_choose := by
  refine fnd_raw F S sem_choose_mono fun cdv A outer s H E vs ds N Q Z rd hl q => ?_
  obtain ⟨m, rfl, h1, h2, q⟩ := sem_choose_inv q
  obtain ⟨v, u, rfl, ⟨a, rfl, hx⟩, r2⟩ := rd.two_inv
  obtain rfl : u = .int m := r2
  have ha : H a = some (.ext (boxC a)) := hx
  refine ⟨_, pss_boxC (a := a) (body cdv A outer s H E Z), ha, fun i m' H1 x1 => choose_read h1 h2 gk rfl rfl (by show 3 < 4; decide) x1 fun r i' m'' H2 g1 g2 x2 => ⟨i', m'', x2, ?_⟩⟩
  exact q r g1 g2 _ _ (x2.same ha) rfl fun z => nomatch z
/-! ### a new box -/
def sem__law_seed : List D → Rt
  | [.scr ns, .int k] => if ns.length ≤ 63 ∧ 0 ≤ k ∧ k < 1000 then W.ret (false, .box 1) else W.fail
  | _ => W.fail
theorem sem_seed_mono (ds : List D) : W.Mono (sem__law_seed ds) := by
  unfold sem__law_seed
  split
  · exact ite_mono W.Mono.ret W.Mono.fail
  · exact W.Mono.fail
theorem sem_seed_inv {ds : List D} {Q : Bool × D → Prop} {E : Ex → Prop} (h : sem__law_seed ds Q E) : ∃ (ns : List Int) (k : Int), ds = [.scr ns, .int k] ∧ ns.length ≤ 63 ∧ 0 ≤ k ∧ k < 1000 ∧ Q (false, .box 1) := by
  unfold sem__law_seed at h
  split at h
  · obtain ⟨⟨h1, h2, h3⟩, h4⟩ := ite_ret h
    exact ⟨_, _, rfl, h1, h2, h3, h4⟩
  · exact h.elim
theorem HOk.looseC {P : Program} {w : World} {H : Hp} {h : Heap} {a : Addr} {i m : Int} (ok : HOk P w H h) (ha : H a = some (.lst [.int i, .int m])) : HOk P w (upd H a (.ext (boxC a))) h := by
  obtain ⟨_, ita, na, ra, ea⟩ := (show ObjOk P w H h a (.lst [.int i, .int m]) from ok a _ ha)
  exact HOk.write (x := a) (e := a) ok (by rw [ha]; trivial) (.inl rfl) (fun _ _ _ q => q) ⟨_, ea⟩ ⟨⟨i, m, ita, na, ra, ea⟩, ⟨_, ea⟩, fun h1 h2 ⟨i, m, its, n, r, e⟩ k => ⟨i, m, its, n, r, k _ e⟩⟩
theorem Un.looseC {fs : List Addr} {H H' : Hp} {h h' : Heap} {a : Addr} {ua va : HO} (u : Un fs [] H H' h h') (ha : H' a = some ua) (na : H a = none) : Un fs [] H (upd H' a va) h h' := by
  have neq : ∀ c o, H c = some o → c ≠ a := fun c o e z => (by rw [z, na] at e; cases e)
  refine ⟨u.keep, u.slot, fun c o e n hx => ?_, u.there, fun c xs e => ?_, fun c o x e => ?_, fun c ps e => ?_⟩
  · have z := u.free c o e n hx
    have ca : c ≠ a := fun y => by rw [y, ha] at z; cases z
    rw [upd_ne ca]; exact z
  · rw [upd_ne (neq c _ e)]; exact u.tups c xs e
  · rw [upd_ne (neq c _ e)]; exact u.frzs c o x e
  · rw [upd_ne (neq c _ e)]; exact u.tbls c ps e
theorem box_ofC {P : Program} {w : World} {G : Wd} {base : Heap} {k : Nat} {x p1 p2 : Str} {sem : List D → Rt} (F : FnK P w G base k x [p1, p2] sem)
    (hs : ∀ (ns : List Int) (j : Int), ns.length ≤ 63 → 0 ≤ j → j < 1000 → ∀ (Q : Bool × D → Prop) (E : Ex → Prop), (∀ (i m : Int), Q (true, .lst [.int i, .int m])) → sem [.scr ns, .int j] Q E) : FnK P w G base k x [p1, p2] sem__law_seed := by
  obtain ⟨f, fd, h1, h2, h3, F⟩ := F.ex
  refine ⟨f, fd, h1, h2, h3, ⟨fun A outer s H args us vs ds N Q E hr hg e0 hb rv rd hl q => ?_, sem_seed_mono⟩⟩
  obtain ⟨ns, j, rfl, hns, j0, j1, q⟩ := sem_seed_inv q
  obtain ⟨v, u, rfl, ⟨a0, rfl, hsc⟩, r2⟩ := rd.two_inv
  obtain rfl : u = .int j := r2
  have go := F.run A outer s H args us [.ref a0, .int j] [.scr ns, .int j] (fun _ => False) (fun v H' => ∃ (a : Addr) (i m : Int), v = .ref a ∧ H a = none ∧ H' a = some (.lst [.int i, .int m]) ∧ Same H H') (fun _ _ _ => False) hr hg e0 hb rv (.cons ⟨a0, rfl, hsc⟩ (.one rfl)) hl
    (hs ns j hns j0 j1 _ _ fun i m v H' s' r' f' => by
      obtain ⟨a, vs, ev, n, hv, v1, ws, e1, rm1, v2, ws3, e3, rm, e4⟩ := r'
      subst e1 e3
      obtain rfl : v1 = .int i := rm1
      obtain rfl : v2 = .int m := rm
      rw [show ws3 = [] from e4] at hv
      have na : H a = none := n.elim (fun z => z.elim) id
      exact ⟨a, i, m, ev, na, hv, s'⟩)
  refine codeAny_mono go fun r s' h => ?_
  cases r with
  | error e => exact (cx_never h).elim
  | ok fl =>
    cases fl with
    | ret u =>
      obtain ⟨v, H', os, bare, un, hok, r', a, i, m, rfl, na, ha, sm⟩ := h
      refine ⟨.ref a, _, os, bare, Un.looseC (va := .ext (boxC a)) un ha na, HOk.looseC hok ha, r', q (.ref a) _ (fun c o e => ?_) ⟨a, rfl, ?_⟩ fun z => nomatch z⟩
      · rw [upd_ne (ne_of_none e na)]; exact sm c o e
      · exact (show upd H' a (.ext (boxC a)) a = some (.ext (boxC a)) from upd_same)
    | _ => exact False.elim h
end Fb
end

section
set_option Elab.async false
set_option linter.all false
set_option maxRecDepth 100000
set_option maxHeartbeats 4000000
/-! An expression on its own; is True; t * n; a cell of the script. -/
namespace Fb
open PySem PySem.Spec PyProof.Rows L2
section
variable {G : Wd} {X : Cx} {Wx : WX}
/-- e, its value dropped -/
def mDo (m : Ro → W Ex D) : En → WS := fun ρ => W.bind (up ρ (m (see [] ρ))) fun _ => W.ret (.nx, ρ)
theorem ds_do {e : Expr} {m : Ro → W Ex D} {pos : Pos} (h : DE G X Wx e m) (hs : swapsWith e none pos.line X.env = pure false := by rfl) : DS G X Wx (.Expr e pos) (mDo m) := by
  refine DS.imp (fun ρ => (Mono.up (h.mono _)).bind fun _ => W.Mono.ret) (ps_expr h.pe hs) fun H0 N0 ρ σ H D' r q => ?_
  obtain ⟨S, o⟩ := r.own
  exact h.inF r.same r.len o [] q fun d v H1 z s1 r1 => z _ _ ⟨r.same.trans s1, r.len, S, o.same s1⟩
def gIsB (neg : Bool) (a b : D) : W Ex D := match a, b with
  | .bl x, .bl y => W.ret (.bl ((x == y) != neg))
  | _, _ => W.fail
theorem gIsB_mono (neg : Bool) (a b : D) : W.Mono (gIsB neg a b) := by
  unfold gIsB
  split
  · exact W.Mono.ret
  · exact W.Mono.fail
theorem dop_isB : DOp G X (fun x y H Q => ∃ a b : Bool, x = .bl a ∧ y = .bl b ∧ Q (.bl (decide (a = b))) H) (gIsB false) := by
  refine ⟨gIsB_mono _, fun N H a b x y Q ra rb q => ?_⟩
  cases a <;> cases b <;> first | exact q.elim | skip
  rename_i a b
  exact ⟨a, b, ra, rb, q _ H (Same.refl H) (by cases a <;> cases b <;> rfl)⟩
theorem dop_isnotB : DOp G X (fun x y H Q => ∃ a b : Bool, x = .bl a ∧ y = .bl b ∧ Q (.bl (!decide (a = b))) H) (gIsB true) := by
  refine ⟨gIsB_mono _, fun N H a b x y Q ra rb q => ?_⟩
  cases a <;> cases b <;> first | exact q.elim | skip
  rename_i a b
  exact ⟨a, b, ra, rb, q _ H (Same.refl H) (by cases a <;> cases b <;> rfl)⟩
def gRep (a b : D) : W Ex D := match a, b with
  | .tup xs, .int k => if xs ≠ [] ∧ 2 ≤ k ∧ k ≤ 1000 ∧ xs.length ≤ 1000 then W.ret (.tup (List.replicate k.toNat xs).flatten) else W.fail
  | _, _ => W.fail
theorem gRep_mono (a b : D) : W.Mono (gRep a b) := by
  unfold gRep
  split
  · exact ite_mono W.Mono.ret W.Mono.fail
  · exact W.Mono.fail
theorem Reps.rep {N : Addr → Prop} {H : Hp} {ds : List D} {vs : List V} (r : Reps G N H ds vs) : ∀ n : Nat, Reps G N H (List.replicate n ds).flatten (List.replicate n vs).flatten
  | 0 => rfl
  | n + 1 => by
    rw [List.replicate_succ, List.replicate_succ, List.flatten_cons, List.flatten_cons]
    exact r.app (Reps.rep r n)
theorem dop_rep (hK : X.K = G.K) : DOp G X (rRepT X.K) gRep := by
  refine ⟨gRep_mono, fun N H a b x y Q ra rb q => ?_⟩
  cases a <;> cases b <;> first | exact q.elim | skip
  rename_i xs k
  obtain ⟨⟨h1, h2, h3, h4⟩, q⟩ := ite_ret q
  obtain ⟨a, vs, rfl, ha, rs⟩ := ra
  refine ⟨a, k, vs, rfl, rb, ?_, ?_, h2, h3, by rw [rs.length]; exact h4, fun p hp => ?_⟩
  · rw [hK]; exact ha.sq
  · intro z
    subst z
    have := rs.length
    exact h1 (List.length_eq_zero_iff.mp this.symm)
  · have s : Same H (upd H p (.tup (List.replicate k.toNat vs).flatten)) := fun b o e => by rw [upd_ne (ne_of_none e hp)]; exact e
    exact q (.ref p) _ s ⟨p, _, rfl, .inl upd_same, ((rs.rep k.toNat).same s).sub fun _ => Fr.of⟩
theorem atI_map {α β : Type} (f : α → β) (xs : List α) (i : Int) : atI (xs.map f) i = (atI xs i).map f := by
  unfold atI
  rw [List.length_map]
  cases ixN xs.length i with
  | none => rfl
  | some j => show (xs.map f)[j]? = (xs[j]?).map f; rw [List.getElem?_map]
def gIxScr (a b : D) : W Ex D := match a, b with
  | .scr ns, .int i => W.got (atI ns i) fun j => W.ret (.int j)
  | _, _ => W.fail
theorem gIxScr_mono (a b : D) : W.Mono (gIxScr a b) := by
  unfold gIxScr
  split
  · exact got_mono fun _ => W.Mono.ret
  · exact W.Mono.fail
theorem dop_ixScr (hK : X.K = G.K) : DOp G X (rIxL X.K) gIxScr := by
  refine ⟨gIxScr_mono, fun N H a b x y Q ra rb q => ?_⟩
  cases a <;> cases b <;> first | exact q.elim | skip
  rename_i ns i
  obtain ⟨j, hj, q⟩ := got_inv q
  obtain ⟨a, rfl, ha⟩ := ra
  refine ⟨a, _, i, .int j, rfl, rb, by rw [hK]; exact ha.sq, by rw [atI_map, hj]; rfl, q _ H (Same.refl H) rfl⟩
end
end Fb
end

section
set_option Elab.async false
set_option linter.all false
set_option maxRecDepth 100000
set_option maxHeartbeats 4000000
/-! Walks over new dicts; {k: v}; xs[i] = e. -/
namespace Fb
open PySem PySem.Spec PyProof.Rows L2
section
variable {G : Wd} {X : Cx} {Wx : WX}
theorem pe_lockF {e : Expr} {te : TE} (h : PE X e te) : PE X e (fun σ H Q => te σ H fun x H1 => ∃ d kvs, x = .ref d ∧ H1 d = some (.dK kvs) ∧ ∀ o, Q x (upd H1 d (.frz o (.dK kvs)))) := by
  refine ⟨fun pins s σ H Q I hw => ?_⟩
  refine thn (h.run pins s σ H _ I hw) fun v s1 ⟨x, H1, I1, r, d, kvs, ex, hd, q⟩ => ?_
  obtain ⟨od, I2⟩ := I1.lock hd trivial
  exact ⟨x, _, I2, r, q od⟩
def pairD (kv : Key × D) : D := .tup [keyD kv.1, kv.2]
theorem RepK.get {N : Addr → Prop} {H : Hp} : ∀ {kvs : List (Key × D)} {ks : List (Key × V)} {i : Nat} {k : Key} {d : D}, RepK G N H kvs ks → kvs[i]? = some (k, d) → ∃ v, ks[i]? = some (k, v) ∧ Rep G N H d v
  | [], _, i, k, d, h, e => by simp at e
  | (k', d') :: kvs, _, 0, k, d, ⟨w, ws, e, r, _⟩, q => by subst e; simp at q; obtain ⟨rfl, rfl⟩ := q; exact ⟨w, rfl, r⟩
  | (k', d') :: kvs, _, i + 1, k, d, ⟨w, ws, e, _, rs⟩, q => by
    subst e
    obtain ⟨v, h1, h2⟩ := RepK.get (i := i) rs (by simpa using q)
    exact ⟨v, by simpa using h1, h2⟩
theorem RepK.len {N : Addr → Prop} {H : Hp} : ∀ {kvs : List (Key × D)} {ks : List (Key × V)}, RepK G N H kvs ks → ks.length = kvs.length
  | [], _, h => by rw [show _ = [] from h]; rfl
  | (_, _) :: kvs, _, ⟨w, ws, e, _, rs⟩ => by rw [e, List.length_cons, List.length_cons, RepK.len rs]
theorem serves_items {N : Addr → Prop} {H : Hp} {a : Addr} {o : Obj} {kvs : List (Key × D)} {ks : List (Key × V)} (n : N a) (h : H a = some (.frz o (.dK ks))) (r : RepK G N H kvs ks) : Serves G N (Iti a o ks) (kvs.map pairD) H := fun HP p i H' s => by
  have h' : H' a = some (.frz o (.dK ks)) := s _ _ (p.has a _ h (.inl n))
  have r' : RepK G (fun a => N a ∧ HP a ≠ none) H' kvs ks := RepK.mono (fun _ n _ => n) (Le.of s) (RepK.part p r)
  rw [List.getElem?_map]
  refine ⟨fun d e => ?_, fun e => ⟨h', ?_⟩⟩
  · obtain ⟨⟨k, d'⟩, e, ed⟩ := Option.map_eq_some_iff.mp e
    obtain ⟨v, e1, r1⟩ := r'.get e
    refine ⟨⟨h', (List.getElem?_eq_some_iff.mp e1).1⟩, fun x H'' y => ?_⟩
    obtain ⟨T, k', v', y1, y2, y3, y4⟩ := (show ∃ T k v, ks[i]? = some (k, v) ∧ x = .ref T ∧ H' T = none ∧ H'' = upd H' T (.tup [kV k, v]) from y)
    rw [e1] at y1
    cases y1
    subst y2 y4 ed
    have s2 : Same H' (upd H' T (.tup [kV k, v])) := Same.updN (Same.refl H') y3
    exact ⟨s2, T, _, rfl, .inl upd_same, kV k, [v], rfl, keyD_rep k, .one (r1.same s2)⟩
  · rw [r.len]
    have e : kvs[i]? = none := by simpa using e
    exact List.getElem?_eq_none_iff.mp e
/-- for .. in d.items(), d new -/
def mItemsF (m : Ro → W Ex (Bool × D)) : Ro → W Ex (List D) := fun ρ => W.bind (m ρ) fun r => if r.1 = true then W.got (asK r.2) fun kvs => W.ret (kvs.map pairD) else W.fail
theorem di_itemsF {e : Expr} {m : Ro → W Ex (Bool × D)} {apos cpos tpos : Pos} {elts : List Expr} {kk : Nat} (he : DR G X Wx e m) (hbase : attributeBase e "items" X.env (eval e X.env) = eval e X.env := by rfl) (hline : (apos.endLine == cpos.line) = true := by rfl) :
    DI G X Wx (.Tuple elts kk tpos) (.Call (.Attribute e "items" apos) [] [] cpos) (mItemsF m) := by
  refine DI.imp (fun ρ => (he.mono ρ).bind fun r => ite_mono (got_mono fun _ => W.Mono.ret) W.Mono.fail) (pi_items (pe_lockF he.pe) hbase hline) fun N ρ σ H R r q => ?_
  refine ⟨N, ρ, r, (he.mono ρ).run (fun rd z v H1 s1 r1 f1 => ?_) (fun x z => z) q⟩
  obtain ⟨hb, z⟩ := ite_ret z
  obtain ⟨kvs, hk, z⟩ := got_inv z
  have f1 := f1 hb
  rw [asK_inv hk] at f1
  obtain ⟨a, rfl, ha, ks, hks, rk⟩ := f1
  refine ⟨a, ks, rfl, hks, fun o => ⟨a, o, ks, rfl, upd_same, z _ _ (fun c u e => ?_) (serves_items (.inr ha) upd_same ?_)⟩⟩
  · rw [upd_ne (ne_of_none e ha)]; exact s1 c u e
  · have lx : LeX (fun b => Fr N H b ∧ b ≠ a) H1 (upd H1 a (.frz o (.dK ks))) := LeX.upd hks trivial fun z => z.2 rfl
    exact RepK.monoX (fun _ n _ => n.1) lx rk
/-- {k: e} -/
def mDic1 (mk m : Ro → W Ex D) : Ro → W Ex (Bool × D) := fun ρ => W.bind (mk ρ) fun kd => W.got (keyOf kd) fun ky => W.bind (m ρ) fun d => W.ret (true, .dic [(ky, d)])
theorem dr_dic1 {k e : Expr} {mk m : Ro → W Ex D} {pos : Pos} (hk : DE G X Wx k mk) (he : DE G X Wx e m) : DR G X Wx (.Dict [some k] [e] pos) (mDic1 mk m) := by
  refine DR.imp (fun ρ => (hk.mono ρ).bind fun _ => got_mono fun _ => (he.mono ρ).bind fun _ => W.Mono.ret) (pe_disp (pps_cons hk.pe he.pe pps_nil) rfl rfl (by simp) (by show 1 ≤ 15; decide)) fun N ρ σ H Q rr q => fun p hp => ?_
  have s0 : Same H (upd H p (.dK [])) := fun b o e => by rw [upd_ne (ne_of_none e hp)]; exact e
  have rr' : ERel G (fun a => N a ∧ H a ≠ none) (upd H p (.dK [])) σ ρ := fun i d e => let ⟨v, e1, r⟩ := rr i d e; ⟨v, e1, (r.mono (N' := fun a => N a ∧ H a ≠ none) (fun a n y => ⟨n, y⟩) (Le.of (Same.refl H))).same s0⟩
  have xx : ∀ x, PoX G N Wx H σ x → PoX G (fun a => N a ∧ H a ≠ none) Wx (upd H p (.dK [])) σ x := fun x z c dd H' s' r' => z c dd H' (s0.trans s') (r'.mono fun a y => y.elim (fun w => .inl w.1) fun w => .inr (s0.free w))
  refine hk.go rr' q xx fun kd v H1 z s1 r1 rr1 => ?_
  obtain ⟨ky, hky, z⟩ := got_inv z
  refine he.go rr1 z (fun x w => (xx x w).step s1) fun d w H2 z s2 r2 _ => ?_
  have hp1 : H1 p = some (.dK []) := s1 _ _ upd_same
  have hp2 : H2 p = some (.dK []) := s2 _ _ hp1
  refine ⟨hp2, [(ky, w)], by rw [r1.key hky]; rfl, by show 1 ≤ 15; decide, ?_⟩
  have np : ¬ Fr (fun a => N a ∧ H a ≠ none) H1 p := fun z => z.elim (fun y => y.2 hp) fun y => by rw [hp1] at y; cases y
  have lx : LeX (Fr (fun a => N a ∧ H a ≠ none) H1) H2 (upd H2 p (.dK [(ky, w)])) := LeX.upd hp2 trivial np
  have r3 : Rep G (fun a => Fr (fun a => N a ∧ H a ≠ none) H1 a) (upd H2 p (.dK [(ky, w)])) d w := r2.monoX (fun _ n _ => n) lx
  have sub : ∀ a, Fr (fun a => N a ∧ H a ≠ none) H1 a → Fr N H a ∧ a ≠ p := fun a y => ⟨y.elim (fun w => .inl w.1) fun w => .inr (s0.free (s1.free w)), fun e => np (e ▸ y)⟩
  have sf : Same H (upd H2 p (.dK [(ky, w)])) := fun b o e => by rw [upd_ne (ne_of_none e hp)]; exact s2 _ _ (s1 _ _ (s0 _ _ e))
  exact z (.ref p) _ sf ⟨p, [(ky, w)], rfl, .inr hp, .inl upd_same, w, [], rfl, r3.sub fun a y => (sub a y).1, rfl⟩ fun _ => ⟨p, rfl, hp, [(ky, w)], upd_same, w, [], rfl, r3.sub sub, rfl⟩
theorem Reps.set {N : Addr → Prop} {H : Hp} : ∀ {ds : List D} {vs : List V} {j : Nat} {d : D} {v : V}, Reps G N H ds vs → Rep G N H d v → Reps G N H (ds.set j d) (vs.set j v)
  | [], _, j, d, v, h, _ => by rw [show _ = [] from h]; exact rfl
  | _ :: ds, _, 0, d, v, ⟨w, ws, e, _, rs⟩, r => by subst e; exact ⟨v, ws, rfl, r, rs⟩
  | _ :: ds, _, j + 1, d, v, ⟨w, ws, e, r', rs⟩, r => by subst e; exact ⟨w, ws.set j v, rfl, r', Reps.set rs r⟩
/-- x[k] = e, x a list -/
def mLput (fz : List Nat) (i : Nat) (mk m : Ro → W Ex D) : En → WS := fun ρ => W.got (slotL ρ[i]?) fun ds => W.bind (up ρ (m (see fz ρ))) fun d => W.bind (up ρ (mk (ro ρ))) fun k => W.got (asI k) fun z => W.got (tak fz i d ρ) fun ρ' => W.got (ixN ds.length z) fun j => W.ret (.nx, ρ'.set i (some (true, .lst (ds.set j d))))
theorem ds_lput {i : Nat} {x : Str} {k e : Expr} {mk m : Ro → W Ex D} {p pos' pos : Pos} (fz : List Nat) (hv : PE X (.Name x p) (tVar i)) (hk : DE G X Wx k mk) (he : DE G X Wx e m) (hg : PG X (.Subscript (.Name x p) k pos') (L2.gSub (tVar i) (tE G Wx mk) rSetL))
    (hs : swapsWithSole [.Subscript (.Name x p) k pos'] e pos.line X.env = pure false := by rfl) (hw : swappedStores [.Subscript (.Name x p) k pos'] e X.env = pure none := by rfl)
    (h1 : (assignEach [.Subscript (.Name x p) k pos'] X.env).map (·.2) = [assign (.Subscript (.Name x p) k pos') X.env] := by rfl) :
    DS G X Wx (.Assign [.Subscript (.Name x p) k pos'] e pos) (mLput fz i mk m) := by
  refine DS.imp (fun ρ => got_mono fun _ => (Mono.up (he.mono _)).bind fun d => (Mono.up (hk.mono _)).bind fun d => got_mono fun _ => got_mono fun _ => got_mono fun _ => W.Mono.ret) (ps_asg he.pe hg hs hw h1) fun H0 N0 ρ σ H D' r q => ?_
  obtain ⟨S, o⟩ := r.own
  obtain ⟨ds, hd, q⟩ := got_inv q
  have hd0 := slotL_inv hd
  refine he.inF r.same r.len o fz q fun d v H1 z s1 r1 => ?_
  have r' := r.step s1
  obtain ⟨a, ea, eS, vs, hvs, _⟩ := o.own i _ hd0
  refine ⟨.ref a, ea, hk.inS r' z fun kd vk H2 z r2 s2 rk => ?_⟩
  obtain ⟨zz, hz, z⟩ := got_inv z
  obtain ⟨ρ', ht, z⟩ := got_inv z
  obtain ⟨j, hj, z⟩ := got_inv z
  rw [asI_inv hz] at rk
  obtain rfl : vk = .int zz := rk
  obtain ⟨S', o', hl', hi', rv⟩ := o.take r.same (s1.trans s2) ht (r1.same s2)
  have hd' : ρ'[i]? = some (some (true, .lst ds)) := hi'.trans hd0
  obtain ⟨b, eb, eS', ws, hws, rs⟩ := o'.own i _ hd'
  rw [ea] at eb
  cases eb
  refine ⟨a, ws, zz, j, rfl, rfl, hws, by rw [rs.length]; exact hj, ?_⟩
  obtain ⟨u, hu, ku⟩ := o'.kind i a eS'
  have lx : LeX (Out N0 H0 S') H2 (upd H2 a (.lst (ws.set j v))) := LeX.upd hu ku (Out.notS eS')
  exact z _ _ ⟨SRel.upd ((r.same.trans s1).trans s2) o' eS', by rw [List.length_set, hl']; exact r.len, S', o'.mut hd' eS' ⟨_, upd_same, Reps.monoX (fun _ n _ => n) lx (rs.set rv)⟩⟩
end
end Fb
namespace Fb
open PySem PySem.Spec PyProof.Rows L2
theorem FunI.dflt {G : Wd} {x qual : Str} {st : Stmt} {f ed : Addr} {fd : FuncData} (F : FunI G.K x qual st f fd ed) (N : Addr → Prop) (H : Hp) : Reps G N H [.tup []] [.ref ed] := by
  obtain ⟨oe, ne, l, c, d⟩ := F.ed
  exact .one ⟨ed, [], rfl, .inr ⟨oe, #[], ne, l, c, d, Nat.zero_le _, .nil⟩, rfl⟩
end Fb
end

section
set_option Elab.async false
set_option linter.all false
set_option maxRecDepth 100000
set_option maxHeartbeats 4000000
namespace FbL
open PySem PySem.Spec PyProof.Rows L2 Fb
def sem_is_integer : List D → Rt := runBody 1 (mRet (mDr (mAndV (mDe (mBlt (gIsi) (mCons (mVar 0) (mCons (mC (.ty "int")) mNil)))) (mNotV (mDe (mBlt (gIsi) (mCons (mVar 0) (mCons (mC (.ty "bool")) mNil))))))))
def sem_is_length : List D → Rt := runBody 1 (mRet (mDr (mAndV (mDe (mCall 1 sem_is_integer [] (mCons (mVar 0) mNil))) (mOp gGe (mVar 0) (mC (.int 1))))))
def sem_is_name : List D → Rt := runBody 2 (mSeq (mIf (mOr (mNot (mTest (mDe (mBlt (gIsi) (mCons (mVar 0) (mCons (mC (.ty "str")) mNil)))))) (mNot (mTest (mChain gLe gLe (mC (.int 1)) (mDe (mBlt (g1 lenD) (mCons (mVar 0) mNil))) (mC (.int 4)))))) (mRet (mDr (mC (.bl false)))) mSkip) (mRet (mBlt (g1 allD) (mCons (mDe (mLc (mWalk (mVar 0)) [1] (pName 1) mYes (mOp (gIn false) (mVar 1) (mC (.str "abcdefghijklmnopqrstuvwxyz"))))) mNil))))
def sem_is_number : List D → Rt := runBody 1 (mRet (mDr (mAndV (mDe (mCall 1 sem_is_integer [] (mCons (mVar 0) mNil))) (mOp gGe (mVar 0) (mC (.int 0))))))
def sem_is_span : List D → Rt := runBody 1 (mSeq (mIf (mTest (mOp (gIs false) (mVar 0) (mC .non))) (mRet (mDr (mC (.bl true)))) mSkip) (mSeq (mIf (mOr (mNot (mTest (mDe (mBlt (gIsi) (mCons (mVar 0) (mCons (mC (.ty "tuple")) mNil)))))) (mOr (mTest (mOp (gEq true) (mDe (mBlt (g1 lenD) (mCons (mVar 0) mNil))) (mC (.int 2)))) (mOr (mNot (mTest (mDe (mCall 1 sem_is_number [] (mCons (mOp gIx (mVar 0) (mC (.int 0))) mNil))))) (mNot (mTest (mDe (mCall 1 sem_is_number [] (mCons (mOp gIx (mVar 0) (mC (.int 1))) mNil)))))))) (mRet (mDr (mC (.bl false)))) mSkip) (mRet (mDr (mOp gLe (mOp gIx (mVar 0) (mC (.int 0))) (mOp gIx (mVar 0) (mC (.int 1))))))))
def sem_is_person : List D → Rt := runBody 1 (mSeq (mIf (mOr (mNot (mTest (mDe (mBlt (gIsi) (mCons (mVar 0) (mCons (mC (.ty "tuple")) mNil)))))) (mOr (mTest (mOp (gEq true) (mDe (mBlt (g1 lenD) (mCons (mVar 0) mNil))) (mC (.int 4)))) (mNot (mTest (mDe (mCall 1 sem_is_name [] (mCons (mOp gIx (mVar 0) (mC (.int 0))) mNil))))))) (mRet (mDr (mC (.bl false)))) mSkip) (mRet (mDr (mAndV (mDe (mCall 1 sem_is_length [] (mCons (mOp gIx (mVar 0) (mC (.int 1))) mNil))) (mAndV (mDe (mCall 1 sem_is_number [] (mCons (mOp gIx (mVar 0) (mC (.int 2))) mNil))) (mDe (mCall 1 sem_is_span [] (mCons (mOp gIx (mVar 0) (mC (.int 3))) mNil))))))))
def sem_is_sequence : List D → Rt := runBody 1 (mRet (mBlt (gIsi) (mCons (mVar 0) (mCons (mTup (mCons (mC (.ty "list")) (mCons (mC (.ty "tuple")) mNil))) mNil))))
def sem_are_people : List D → Rt := runBody 2 (mSeq (mIf (mOr (mNot (mTest (mDe (mCall 1 sem_is_sequence [] (mCons (mVar 0) mNil))))) (mOr (mTest (mOp (gEq false) (mDe (mBlt (g1 lenD) (mCons (mVar 0) mNil))) (mC (.int 0)))) (mNot (mTest (mDe (mBlt (g1 allD) (mCons (mDe (mLc (mWalk (mVar 0)) [1] (pName 1) mYes (mDe (mCall 1 sem_is_person [] (mCons (mVar 1) mNil))))) mNil))))))) (mRet (mDr (mC (.bl false)))) mSkip) (mRet (mDr (mOp (gEq false) (mDe (mBlt (g1 lenD) (mCons (mDe (mDc (mWalk (mVar 0)) [1] (pName 1) mYes (mOp gIx (mVar 1) (mC (.int 0))) (mC (.bl true)))) mNil))) (mDe (mBlt (g1 lenD) (mCons (mVar 0) mNil)))))))
def sem_is_meeting : List D → Rt := runBody 2 (mSeq (mIf (mOr (mNot (mTest (mDe (mBlt (gIsi) (mCons (mVar 1) (mCons (mC (.ty "tuple")) mNil)))))) (mOr (mTest (mOp (gEq true) (mDe (mBlt (g1 lenD) (mCons (mVar 1) mNil))) (mC (.int 3)))) (mNot (mTest (mDe (mCall 1 sem_is_number [] (mCons (mOp gIx (mVar 1) (mC (.int 0))) mNil))))))) (mRet (mDr (mC (.bl false)))) mSkip) (mSeq (mIf (mOr (mNot (mTest (mDe (mCall 1 sem_is_name [] (mCons (mOp gIx (mVar 1) (mC (.int 1))) mNil))))) (mOr (mNot (mTest (mDe (mCall 1 sem_is_name [] (mCons (mOp gIx (mVar 1) (mC (.int 2))) mNil))))) (mTest (mOp (gEq false) (mOp gIx (mVar 1) (mC (.int 1))) (mOp gIx (mVar 1) (mC (.int 2))))))) (mRet (mDr (mC (.bl false)))) mSkip) (mRet (mDr (mAndV (mOp (gIn false) (mOp gIx (mVar 1) (mC (.int 1))) (mVar 0)) (mOp (gIn false) (mOp gIx (mVar 1) (mC (.int 2))) (mVar 0)))))))
def sem_Plan___init__ : List D → If := runIni 6 (mIcons (mIf (mNot (mTest (mDe (mCall 1 sem_are_people [] (mCons (mVar 1) mNil))))) mNo mSkip) (mIcons (mSet [1] 3 (mLc (mWalk (mVar 1)) [4] (pName 4) mYes (mOp gIx (mVar 4) (mC (.int 0))))) (mIcons (mIf (mOr (mNot (mTest (mDe (mCall 1 sem_is_sequence [] (mCons (mVar 2) mNil))))) (mNot (mTest (mDe (mBlt (g1 allD) (mCons (mDe (mLc (mWalk (mVar 2)) [5] (pName 5) mYes (mDe (mCall 2 sem_is_meeting [] (mCons (mVar 3) (mCons (mVar 5) mNil)))))) mNil)))))) mNo mSkip) (mFlds (("people", (mDe (mBlt (gTuple) (mCons (mVar 1) mNil)))) :: (("meetings", (mDe (mBlt (gTuple) (mCons (mVar 2) mNil)))) :: []))))))
def sem__law_seed0 : List D → Rt := runBody 4 (mSeq (mSet [1] 2 (mOpR gAdd (mOp gMul (mC (.int 8219)) (mVar 1)) (mC (.int 127)))) (mSeq (mIf (mTest (mOp gLt (mVar 1) (mDe (mBlt (g1 lenD) (mCons (mVar 0) mNil))))) (mSet [0, 1] 2 (mBlt (g1 absD) (mCons (mOp gIxScr (mVar 0) (mVar 1)) mNil))) (mIf (mTest (mOp gGt (mDe (mBlt (g1 lenD) (mCons (mVar 0) mNil))) (mC (.int 0)))) (mSet [2, 0, 1] 2 (mOpR gAdd (mVar 2) (mOp gMul (mOp gMod (mDe (mBlt (g1 intD) (mCons (mDe (mBlt (g1 absD) (mCons (mOp gIxScr (mVar 0) (mOp gMod (mDe (mBlt (g1 intD) (mCons (mVar 1) mNil))) (mDe (mBlt (g1 lenD) (mCons (mVar 0) mNil))))) mNil))) mNil))) (mC (.int 2147483629))) (mC (.int 46021))))) mSkip)) (mSeq (mSet [2] 3 (mDr (mIfE (mTest (mOp gGe (mVar 2) (mOp gPow (mC (.int 10)) (mC (.int 18))))) (mVar 2) (mC (.int 0))))) (mRet (mLst (mCons (mVar 3) (mCons (mDe (mOpR gAdd (mOp gMod (mDe (mBlt (g1 intD) (mCons (mDe (mOpR gAdd (mOp gMul (mOp gMod (mDe (mBlt (g1 intD) (mCons (mVar 2) mNil))) (mC (.int 2147483629))) (mC (.int 48271))) (mOp gMul (mC (.int 39119)) (mVar 1)))) mNil))) (mC (.int 2147483629))) (mC (.int 1)))) mNil)))))))
def sem_Plan_names : List D → Rt := runBody 2 (mRet (mBlt (gTuple) (mCons (mDe (mLc (mWalk (mFld "Plan" "people" (mVar 0))) [1] (pName 1) mYes (mOp gIx (mVar 1) (mC (.int 0))))) mNil)))
def sem_is_earlier : List D → Rt := runBody 2 (mRet (mDr (mAndV (mOp (gIs true) (mVar 0) (mC .non)) (mOrV (mOp (gIs false) (mVar 1) (mC .non)) (mOp gLt (mVar 0) (mVar 1))))))
def sem_need_same : List D → Rt := runBody 2 (mIf (mTest (mOp (gEq true) (mFld "Plan" "people" (mVar 0)) (mFld "Plan" "people" (mVar 1)))) mNo mSkip)
def sem_passed : List D → Rt := runBody 4 (mSeq (mIf (mOr (mTest (mOp (gIs false) (mVar 0) (mC .non))) (mTest (mOp gGt (mDe (mOpR gAdd (mVar 0) (mVar 1))) (mVar 2)))) (mRetV 3) mSkip) (mRet (mIfE (mTest (mOp (gIs false) (mVar 3) (mC .non))) (mDr (mVar 2)) (mBlt (gMM false) (mCons (mDe (mBlt (g1 intD) (mCons (mVar 2) mNil))) (mCons (mDe (mBlt (g1 intD) (mCons (mVar 3) mNil))) mNil))))))
def sem_days_by : List D → Rt := runBody 10 (mSeq (mSet [1, 0] 2 (mDc (mWalk (mDe (mProp "Plan" sem_Plan_names (mVar 0)))) [8] (pName 8) mYes (mVar 8) (mGet1 (mVar 1) (mVar 8)))) (mSeq (mSet [0] 3 (mDc (mWalk (mFld "Plan" "people" (mVar 0))) [9] (pName 9) mYes (mOp gIx (mVar 9) (mC (.int 0))) (mOp gIx (mVar 9) (mC (.int 1))))) (mSeq (mFor [0] (mWalk (mDe (mBlt (gSorted) (mCons (mFld "Plan" "meetings" (mVar 0)) mNil)))) (pTup 3 (pCons (pName 4) (pCons (pName 5) (pCons (pName 6) pNil)))) (mSeq (mSet [2, 5, 6] 7 (mDr (mTup (mCons (mOp gIx (mVar 2) (mVar 5)) (mCons (mOp gIx (mVar 2) (mVar 6)) mNil))))) (mSeq (mDput [4, 7, 3, 5] 2 (mVar 6) (mDe (mCall 4 sem_passed [] (mCons (mOp gIx (mVar 7) (mC (.int 0))) (mCons (mOp gIx (mVar 3) (mVar 5)) (mCons (mVar 4) (mCons (mOp gIx (mVar 7) (mC (.int 1))) mNil))))))) (mDput [4, 7, 3, 6] 2 (mVar 5) (mDe (mCall 4 sem_passed [] (mCons (mOp gIx (mVar 7) (mC (.int 1))) (mCons (mOp gIx (mVar 3) (mVar 6)) (mCons (mVar 4) (mCons (mOp gIx (mVar 7) (mC (.int 0))) mNil)))))))))) (mRetV 2))))
def sem_spans_of : List D → Rt := runBody 2 (mRet (mDc (mWalk (mFld "Plan" "people" (mVar 0))) [1] (pName 1) (mTest (mOp (gIs true) (mOp gIx (mVar 1) (mC (.int 3))) (mC .non))) (mOp gIx (mVar 1) (mC (.int 0))) (mOp gIx (mVar 1) (mC (.int 3)))))
def sem_turning_days : List D → Rt := runBody 12 (mSeq (mPar [(2, [0], (mDc (mWalk (mFld "Plan" "people" (mVar 0))) [11] (pName 11) mYes (mOp gIx (mVar 11) (mC (.int 0))) (mOp gIx (mVar 11) (mC (.int 1))))), (3, [], mDic0)]) (mSeq (mFor [0] (mItemsF (mCall 1 sem_spans_of [] (mCons (mVar 0) mNil))) (pTup 2 (pCons (pName 4) (pCons (pTup 2 (pCons (pName 5) (pCons (pName 6) pNil))) pNil))) (mSeq (mSet [5] 7 (mLst (mCons (mVar 5) mNil))) (mSeq (mFor [0, 1] (mWalk (mTup (mStar (mFld "Plan" "meetings" (mVar 0)) (mStar (mFld "Plan" "meetings" (mVar 1)) mNil)))) (pTup 3 (pCons (pName 8) (pCons (pName 9) (pCons (pName 10) pNil)))) (mIf (mTest (mOp (gIn false) (mVar 4) (mTup (mCons (mVar 9) (mCons (mVar 10) mNil))))) (mExt [8, 2, 4] 7 (mDe (mLst (mCons (mOp gSub (mVar 8) (mOp gIx (mVar 2) (mVar 4))) (mCons (mDe (mOpR gAdd (mOp gSub (mVar 8) (mOp gIx (mVar 2) (mVar 4))) (mC (.int 1)))) mNil))))) mSkip)) (mDput [8, 7, 5, 6] 3 (mVar 4) (mDe (mLc (mWalk (mVar 7)) [8] (pName 8) (mTest (mChain gLe gLe (mVar 5) (mVar 8) (mVar 6))) (mVar 8))))))) (mRetV 3)))
def sem_unlike_days : List D → Rt := runBody 6 (mSeq (mSet [] 2 (mLst mNil)) (mSeq (mFor [0, 1] (mItemsF (mCall 2 sem_turning_days [] (mCons (mVar 0) (mCons (mVar 1) mNil)))) (pTup 2 (pCons (pName 3) (pCons (pName 4) pNil))) (mExt [3, 4, 0, 1] 2 (mDe (mLc (mWalk (mVar 4)) [5] (pName 5) mYes (mTup (mCons (mVar 3) (mCons (mVar 5) (mCons (mDe (mCall 2 sem_days_by [] (mCons (mVar 0) (mCons (mDe (mDic1 (mVar 3) (mVar 5))) mNil)))) (mCons (mDe (mCall 2 sem_days_by [] (mCons (mVar 1) (mCons (mDe (mDic1 (mVar 3) (mVar 5))) mNil)))) mNil))))))))) (mRetV 2)))
def sem_sooner : List D → Rt := runBody 7 (mSeq (mDo (mDe (mCall 2 sem_need_same [] (mCons (mVar 0) (mCons (mVar 1) mNil))))) (mSeq (mFor [0, 1] (mWalk (mDe (mCall 2 sem_unlike_days [] (mCons (mVar 0) (mCons (mVar 1) mNil))))) (pTup 4 (pCons (pName 2) (pCons (pName 3) (pCons (pName 4) (pCons (pName 5) pNil))))) (mFor [0] (mWalk (mDe (mProp "Plan" sem_Plan_names (mVar 0)))) (pName 6) (mIf (mTest (mDe (mCall 2 sem_is_earlier [] (mCons (mOp gIx (mVar 4) (mVar 6)) (mCons (mOp gIx (mVar 5) (mVar 6)) mNil))))) (mRet (mDr (mTup (mCons (mTup (mCons (mTup (mCons (mVar 2) (mCons (mVar 3) mNil))) mNil)) (mCons (mVar 6) mNil))))) mSkip))) (mRet (mDr (mC .non)))))
def sem_never_sooner : List D → Rt := runBody 2 (mRet (mDr (mOp (gIs false) (mDe (mCall 2 sem_sooner [] (mCons (mVar 0) (mCons (mVar 1) mNil)))) (mC .non))))
def sem_alike : List D → Rt := runBody 2 (mRet (mDr (mAndV (mDe (mCall 2 sem_never_sooner [] (mCons (mVar 0) (mCons (mVar 1) mNil)))) (mDe (mCall 2 sem_never_sooner [] (mCons (mVar 1) (mCons (mVar 0) mNil)))))))
def sem_law : List D → Rt := runBody 10 (mSeq (mFor [0] (mRng1 (mCons (mDe (mBlt (gMM true) (mCons (mC (.int 1)) (mCons (mDe (mBlt (gMM false) (mCons (mC (.int 4)) (mCons (mDe (mBlt (g1 lenD) (mCons (mVar 0) mNil))) mNil)))) mNil)))) mNil)) (pName 1) (mSeq (mSet [0, 1] 2 (mCall 2 sem__law_seed [] (mCons (mVar 0) (mCons (mVar 1) mNil)))) (mSeq (mPar [(3, [2], (mOpR gAdd (mOp gPow (mC (.int 10)) (mC (.int 17))) (mDe (mCall 2 sem__law_choose [] (mCons (mVar 2) (mCons (mOp gPow (mC (.int 10)) (mC (.int 6))) mNil)))))), (4, [2], (mOpR gAdd (mC (.int 1)) (mDe (mCall 2 sem__law_choose [] (mCons (mVar 2) (mCons (mOp gPow (mC (.int 10)) (mC (.int 9))) mNil))))))]) (mSeq (mSet [3, 4, 2] 5 (mDr (mOp gSub (mOp gSub (mVar 3) (mVar 4)) (mDe (mCall 2 sem__law_choose [] (mCons (mVar 2) (mCons (mC (.int 5)) mNil))))))) (mSeq (mSet [4, 5, 3] 6 (mLst (mCons (mTup (mCons (mC (.str "a")) (mCons (mVar 4) (mCons (mC (.int 0)) (mCons (mTup (mCons (mVar 5) (mCons (mVar 3) mNil))) mNil))))) (mCons (mTup (mCons (mC (.str "b")) (mCons (mC (.int 1)) (mCons (mC (.int 0)) (mCons (mC .non) mNil))))) (mCons (mTup (mCons (mC (.str "c")) (mCons (mC (.int 1)) (mCons (mC (.int 0)) (mCons (mC .non) mNil))))) mNil))))) (mSeq (mPar [(7, [6, 3], (mMake "Plan" 3 sem_Plan___init__ [] (mCons (mVar 6) (mCons (mDe (mLst (mCons (mTup (mCons (mVar 3) (mCons (mC (.str "a")) (mCons (mC (.str "b")) mNil)))) (mCons (mTup (mCons (mDe (mOpR gAdd (mVar 3) (mC (.int 1)))) (mCons (mC (.str "b")) (mCons (mC (.str "c")) mNil)))) mNil)))) mNil)))), (8, [6, 3], (mMake "Plan" 3 sem_Plan___init__ [] (mCons (mVar 6) (mCons (mDe (mLst (mCons (mTup (mCons (mVar 3) (mCons (mC (.str "a")) (mCons (mC (.str "b")) mNil)))) mNil))) mNil))))]) (mSeq (mIf (mOr (mTest (mOp (gIsB true) (mDe (mCall 2 sem_never_sooner [] (mCons (mVar 8) (mCons (mVar 7) mNil)))) (mC (.bl true)))) (mOr (mTest (mOp (gIsB true) (mDe (mCall 2 sem_never_sooner [] (mCons (mVar 7) (mCons (mVar 8) mNil)))) (mC (.bl false)))) (mTest (mDe (mCall 2 sem_alike [] (mCons (mVar 7) (mCons (mVar 8) mNil))))))) (mRet (mDr (mC (.bl false)))) mSkip) (mSeq (mSet [7, 8] 9 (mCall 2 sem_sooner [] (mCons (mVar 7) (mCons (mVar 8) mNil)))) (mSeq (mIf (mOr (mTest (mOp (gEq true) (mOp gIx (mVar 9) (mC (.int 1))) (mC (.str "c")))) (mOr (mTest (mOp (gEq true) (mOp gIx (mOp gIx (mOp gIx (mVar 9) (mC (.int 0))) (mC (.int 0))) (mC (.int 0))) (mC (.str "a")))) (mNot (mTest (mChain gLe gLe (mVar 5) (mOp gIx (mOp gIx (mOp gIx (mVar 9) (mC (.int 0))) (mC (.int 0))) (mC (.int 1))) (mOp gSub (mVar 3) (mVar 4))))))) (mRet (mDr (mC (.bl false)))) mSkip) (mSeq (mIf (mTest (mOp (gIs true) (mDe (mCall 2 sem_sooner [] (mCons (mVar 8) (mCons (mVar 7) mNil)))) (mC .non))) (mRet (mDr (mC (.bl false)))) mSkip) (mSeq (mLput [4, 3] 6 (mC (.int 0)) (mTup (mCons (mC (.str "a")) (mCons (mVar 4) (mCons (mC (.int 0)) (mCons (mTup (mCons (mDe (mOpR gAdd (mOp gSub (mVar 3) (mVar 4)) (mC (.int 1)))) (mCons (mVar 3) mNil))) mNil)))))) (mSeq (mPar [(7, [6, 3], (mMake "Plan" 3 sem_Plan___init__ [] (mCons (mVar 6) (mCons (mDe (mLst (mCons (mTup (mCons (mVar 3) (mCons (mC (.str "a")) (mCons (mC (.str "b")) mNil)))) (mCons (mTup (mCons (mDe (mOpR gAdd (mVar 3) (mC (.int 1)))) (mCons (mC (.str "b")) (mCons (mC (.str "c")) mNil)))) mNil)))) mNil)))), (8, [6], (mMake "Plan" 3 sem_Plan___init__ [] (mCons (mVar 6) (mCons (mDe (mLst mNil)) mNil))))]) (mSeq (mIf (mOr (mTest (mOp (gIsB true) (mDe (mCall 2 sem_alike [] (mCons (mVar 7) (mCons (mVar 8) mNil)))) (mC (.bl true)))) (mOr (mTest (mOp (gIs true) (mDe (mCall 2 sem_sooner [] (mCons (mVar 7) (mCons (mVar 8) mNil)))) (mC .non))) (mTest (mOp (gIsB true) (mDe (mCall 2 sem_never_sooner [] (mCons (mVar 7) (mCons (mVar 8) mNil)))) (mC (.bl true)))))) (mRet (mDr (mC (.bl false)))) mSkip) (mSeq (mLput [4, 3] 6 (mC (.int 0)) (mTup (mCons (mC (.str "a")) (mCons (mVar 4) (mCons (mC (.int 0)) (mCons (mTup (mCons (mC (.int 0)) (mCons (mOp gSub (mVar 3) (mVar 4)) mNil))) mNil)))))) (mSeq (mPar [(7, [6, 3], (mMake "Plan" 3 sem_Plan___init__ [] (mCons (mVar 6) (mCons (mDe (mLst (mCons (mTup (mCons (mVar 3) (mCons (mC (.str "a")) (mCons (mC (.str "b")) mNil)))) mNil))) mNil)))), (8, [6, 3], (mMake "Plan" 3 sem_Plan___init__ [] (mCons (mVar 6) (mCons (mDe (mLst (mCons (mTup (mCons (mVar 3) (mCons (mC (.str "a")) (mCons (mC (.str "b")) mNil)))) (mCons (mTup (mCons (mOp gSub (mVar 3) (mC (.int 1))) (mCons (mC (.str "b")) (mCons (mC (.str "a")) mNil)))) mNil)))) mNil))))]) (mSeq (mIf (mOr (mTest (mOp (gIsB true) (mDe (mCall 2 sem_never_sooner [] (mCons (mVar 7) (mCons (mVar 8) mNil)))) (mC (.bl true)))) (mTest (mOp (gIsB true) (mDe (mCall 2 sem_never_sooner [] (mCons (mVar 8) (mCons (mVar 7) mNil)))) (mC (.bl false))))) (mRet (mDr (mC (.bl false)))) mSkip) (mSeq (mSet [8, 7] 9 (mCall 2 sem_sooner [] (mCons (mVar 8) (mCons (mVar 7) mNil)))) (mSeq (mIf (mOr (mTest (mOp (gEq true) (mOp gIx (mVar 9) (mC (.int 1))) (mC (.str "b")))) (mOr (mTest (mOp (gEq true) (mOp gIx (mOp gIx (mOp gIx (mVar 9) (mC (.int 0))) (mC (.int 0))) (mC (.int 0))) (mC (.str "a")))) (mTest (mOp gGt (mOp gIx (mOp gIx (mOp gIx (mVar 9) (mC (.int 0))) (mC (.int 0))) (mC (.int 1))) (mOp gSub (mOp gSub (mVar 3) (mVar 4)) (mC (.int 1))))))) (mRet (mDr (mC (.bl false)))) mSkip) (mSeq (mLput [4, 3] 6 (mC (.int 0)) (mTup (mCons (mC (.str "a")) (mCons (mVar 4) (mCons (mC (.int 0)) (mCons (mTup (mCons (mOp gSub (mVar 3) (mVar 4)) (mCons (mVar 3) mNil))) mNil)))))) (mSeq (mPar [(7, [6, 3], (mMake "Plan" 3 sem_Plan___init__ [] (mCons (mVar 6) (mCons (mDe (mLst (mCons (mTup (mCons (mVar 3) (mCons (mC (.str "a")) (mCons (mC (.str "b")) mNil)))) mNil))) mNil)))), (8, [6, 3], (mMake "Plan" 3 sem_Plan___init__ [] (mCons (mVar 6) (mCons (mDe (mLst (mCons (mTup (mCons (mVar 3) (mCons (mC (.str "b")) (mCons (mC (.str "a")) mNil)))) (mCons (mTup (mCons (mOp gSub (mVar 3) (mC (.int 1))) (mCons (mC (.str "b")) (mCons (mC (.str "a")) mNil)))) mNil)))) mNil))))]) (mSeq (mIf (mOr (mTest (mOp (gIsB true) (mDe (mCall 2 sem_alike [] (mCons (mVar 7) (mCons (mVar 8) mNil)))) (mC (.bl true)))) (mTest (mOp (gIs true) (mDe (mCall 2 sem_sooner [] (mCons (mVar 8) (mCons (mVar 7) mNil)))) (mC .non)))) (mRet (mDr (mC (.bl false)))) mSkip) (mIf (mNot (mTest (mDe (mCall 2 sem_alike [] (mCons (mDe (mMake "Plan" 3 sem_Plan___init__ [.tup []] (mCons (mDe (mLst (mCons (mTup (mCons (mC (.str "a")) (mCons (mC (.int 1)) (mCons (mC (.int 0)) (mCons (mC .non) mNil))))) mNil))) mNil))) (mCons (mDe (mMake "Plan" 3 sem_Plan___init__ [.tup []] (mCons (mDe (mLst (mCons (mTup (mCons (mC (.str "a")) (mCons (mC (.int 1)) (mCons (mC (.int 0)) (mCons (mC .non) mNil))))) mNil))) mNil))) mNil)))))) (mRet (mDr (mC (.bl false)))) mSkip)))))))))))))))))))))) (mRet (mDr (mC (.bl true)))))
end FbL
end

section
set_option Elab.async false
set_option linter.all false
set_option maxRecDepth 100000
set_option maxHeartbeats 4000000
namespace FbL
open PySem PySem.Spec PyProof.Rows L2 Fb
theorem is_integer_int (i : Int) : sem_is_integer [.int i] = W.ret (false, .bl true) := rfl
theorem is_number_int (i : Int) : sem_is_number [.int i] = W.ret (false, .bl (decide (0 ≤ i))) := rfl
theorem is_length_int (i : Int) : sem_is_length [.int i] = W.ret (false, .bl (decide (1 ≤ i))) := rfl
theorem is_seq_tup (l : List D) : sem_is_sequence [.tup l] = W.ret (false, .bl true) := rfl
theorem is_seq_lst (l : List D) : sem_is_sequence [.lst l] = W.ret (false, .bl true) := rfl
def spD : Option (Int × Int) → D
  | none => .non
  | some (a, b) => .tup [.int a, .int b]
def spOk : Option (Int × Int) → Bool
  | none => true
  | some (a, b) => decide (0 ≤ a) && decide (0 ≤ b) && decide (a ≤ b)
theorem rb {ε α β : Type} (a : α) (k : α → W ε β) : W.bind (W.ret a) k = k a := rfl
theorem rc {ε α : Type} (a : α) : W.calm (W.ret a : W ε α) = W.ret a := rfl
theorem rl {ε δ α : Type} (f : ε → δ) (a : α) : W.lift f (W.ret a) = W.ret a := rfl
theorem wite {ε α : Type} (b : Bool) (m n : W ε α) (Q : α → Prop) (E : ε → Prop) : (if b = true then m else n) Q E = bif b then m Q E else n Q E := by cases b <;> rfl
theorem run_ret (n : Nat) (b : En → WS) (ds : List D) (r : Bool × D) (ρ : En) (h : b (initEn n ds) = W.ret (.rt r, ρ)) : runBody n b ds = W.ret r := by
  unfold runBody; rw [h]; rfl
theorem seq_nx {m n : En → WS} {ρ ρ' : En} (h : m ρ = W.ret (.nx, ρ')) : mSeq m n ρ = n ρ' := by
  show W.bind (m ρ) _ = _; rw [h]; rfl
theorem seq_rt {m n : En → WS} {ρ ρ' : En} {r : Bool × D} (h : m ρ = W.ret (.rt r, ρ')) : mSeq m n ρ = W.ret (.rt r, ρ') := by
  show W.bind (m ρ) _ = _; rw [h]; rfl
theorem if_eq {c : Ro → W Ex Bool} {m n : En → WS} {ρ : En} (b : Bool) (h : c (ro ρ) = W.ret b) : mIf c m n ρ = if b = true then m ρ else n ρ := by
  show W.bind (up ρ (c (ro ρ))) _ = _; rw [h]; rfl
theorem or_eq {m n : Ro → W Ex Bool} {ρ : Ro} (a b : Bool) (h : m ρ = W.ret a) (h' : a = false → n ρ = W.ret b) : mOr m n ρ = W.ret (a || b) := by
  show W.bind (m ρ) _ = _; rw [h]; cases a
  · exact h' rfl
  · rfl
theorem and_eq {m n : Ro → W Ex Bool} {ρ : Ro} (a b : Bool) (h : m ρ = W.ret a) (h' : a = true → n ρ = W.ret b) : mAnd m n ρ = W.ret (a && b) := by
  show W.bind (m ρ) _ = _; rw [h]; cases a
  · rfl
  · exact h' rfl
theorem andV_eq {m n : Ro → W Ex D} {ρ : Ro} (a b : Bool) (h : m ρ = W.ret (.bl a)) (h' : a = true → n ρ = W.ret (.bl b)) : mAndV m n ρ = W.ret (.bl (a && b)) := by
  show W.bind (m ρ) _ = _; rw [h]; cases a
  · rfl
  · exact h' rfl
theorem not_eq {m : Ro → W Ex Bool} {ρ : Ro} (a : Bool) (h : m ρ = W.ret a) : mNot m ρ = W.ret (!a) := by
  show W.bind (m ρ) _ = _; rw [h]; rfl
theorem test_eq {m : Ro → W Ex D} {ρ : Ro} (a : Bool) (h : m ρ = W.ret (.bl a)) : mTest m ρ = W.ret a := by
  show W.bind (m ρ) _ = _; rw [h]; rfl
theorem guard {c : Ro → W Ex Bool} {m n : En → WS} {ρ : En} {r : Bool × D} (b : Bool) (hc : c (ro ρ) = W.ret b) (hm : m ρ = W.ret (.rt r, ρ)) : mSeq (mIf c m mSkip) n ρ = if b = true then W.ret (.rt r, ρ) else n ρ := by
  cases b
  · rw [seq_nx (if_eq false hc)]; rfl
  · rw [seq_rt (ρ' := ρ) (r := r) ((if_eq true hc).trans hm)]; rfl
theorem guardN {c : Ro → W Ex Bool} {m n : En → WS} {ρ : En} (hc : c (ro ρ) = W.ret false) : mSeq (mIf c m mSkip) n ρ = n ρ := seq_nx (if_eq false hc)
/-- if c: return False, and on -/
theorem guardB {c : Ro → W Ex Bool} {m n : En → WS} {ρ : En} (b t : Bool) (hc : c (ro ρ) = W.ret b) (hm : m ρ = W.ret (.rt (false, .bl false), ρ)) (hn : b = false → n ρ = W.ret (.rt (false, .bl t), ρ)) : mSeq (mIf c m mSkip) n ρ = W.ret (.rt (false, .bl (!b && t)), ρ) := by
  rw [guard b hc hm]
  cases b
  · rw [if_neg Bool.false_ne_true, hn rfl]; rfl
  · rfl
theorem ret_eq {m : Ro → W Ex (Bool × D)} {ρ : En} {r : Bool × D} (h : m (ro ρ) = W.ret r) : mRet m ρ = W.ret (.rt r, ρ) := by
  show W.bind (up _ (m (ro ρ))) _ = _; rw [h]; rfl
theorem dr_eq {m : Ro → W Ex D} {ρ : Ro} {r : D} (h : m ρ = W.ret r) : mDr m ρ = W.ret (false, r) := by
  show W.bind (m ρ) _ = _; rw [h]; rfl
theorem de_eq {m : Ro → W Ex (Bool × D)} {ρ : Ro} {b : Bool} {r : D} (h : m ρ = W.ret (b, r)) : mDe m ρ = W.ret r := by
  show W.bind (m ρ) _ = _; rw [h]; rfl
theorem call_eq {n : Nat} {sem : List D → Rt} {m : Ro → W Ex (List D)} {ρ : Ro} {ds : List D} {r : Bool × D} (hm : m ρ = W.ret ds) (hn : ds.length = n) (h : sem ds = W.ret r) : mCall n sem [] m ρ = W.ret r := by
  show W.bind (m ρ) (fun ds => if (ds ++ []).length = n then sem (ds ++ []) else W.fail) = _
  rw [hm]
  show (if (ds ++ []).length = n then sem (ds ++ []) else W.fail) = _
  rw [List.append_nil, if_pos hn, h]
theorem op_eq {g : D → D → W Ex D} {m n : Ro → W Ex D} {ρ : Ro} {a b r : D} (hm : m ρ = W.ret a) (hn : n ρ = W.ret b) (h : g a b = W.ret r) : mOp g m n ρ = W.ret r := by
  show W.bind (m ρ) (fun a => W.bind (n ρ) fun b => W.calm (g a b)) = _
  rw [hm]
  show W.bind (n ρ) (fun b => W.calm (g a b)) = _
  rw [hn]
  show W.calm (g a b) = _
  rw [h]; rfl
theorem cons_eq {m : Ro → W Ex D} {n : Ro → W Ex (List D)} {ρ : Ro} {d : D} {ds : List D} (hm : m ρ = W.ret d) (hn : n ρ = W.ret ds) : mCons m n ρ = W.ret (d :: ds) := by
  show W.bind (m ρ) (fun d => W.bind (n ρ) fun ds => W.ret (d :: ds)) = _
  rw [hm]
  show W.bind (n ρ) (fun ds => W.ret (d :: ds)) = _
  rw [hn]; rfl
theorem blt_eq {g : List D → Rt} {m : Ro → W Ex (List D)} {ρ : Ro} {ds : List D} {r : Bool × D} (hm : m ρ = W.ret ds) (h : g ds = W.ret r) : mBlt g m ρ = W.ret r := by
  show W.bind (m ρ) (fun ds => W.calm (g ds)) = _
  rw [hm]
  show W.calm (g ds) = _
  rw [h]; rfl
theorem is_span_eq (s : Option (Int × Int)) : sem_is_span [spD s] = W.ret (false, .bl (spOk s)) := by
  rcases s with _ | ⟨a, b⟩
  · rfl
  · refine run_ret _ _ _ _ [some (false, spD (some (a, b)))] ?_
    refine (guard (r := (false, .bl true)) false rfl rfl).trans ?_
    refine (guard (r := (false, .bl false)) (!decide (0 ≤ a) || !decide (0 ≤ b)) (or_eq false _ rfl fun _ => or_eq false _ rfl fun _ => or_eq (!decide (0 ≤ a)) (!decide (0 ≤ b)) rfl fun _ => rfl) rfl).trans ?_
    show (if (!decide (0 ≤ a) || !decide (0 ≤ b)) = true then W.ret (Fl.rt (false, D.bl false), [some (false, spD (some (a, b)))]) else W.ret (Fl.rt (false, D.bl (decide (a ≤ b))), [some (false, spD (some (a, b)))])) = W.ret (Fl.rt (false, D.bl (decide (0 ≤ a) && decide (0 ≤ b) && decide (a ≤ b))), _)
    generalize decide (0 ≤ a) = x
    generalize decide (0 ≤ b) = y
    cases x <;> cases y <;> rfl
def letters : Str := "abcdefghijklmnopqrstuvwxyz"
def nameOk (x : Str) : Bool := decide (1 ≤ x.length) && decide (x.length ≤ 4) && x.cps.toList.all fun c => decide (c ∈ letters.cps.toList)
theorem blsOf_map (l : List Bool) : blsOf (l.map D.bl) = some l := by
  induction l with
  | nil => rfl
  | cons b r ih => show (blsOf (r.map D.bl)).map (b :: ·) = _; rw [ih]; rfl
theorem all_eq {m : Ro → W Ex (List D)} {p : D → Option (List (Nat × D))} {vs : List Nat} {e : Ro → W Ex D} {ρ : Ro} (xs : List D) (t : D → Bool) (hm : m ρ = W.ret xs) (hl : xs.length ≤ sizeLine) (h : ∀ x ∈ xs, ∃ bs, p x = some bs ∧ e (setR (wipeR ρ vs) bs) = W.ret (.bl (t x))) :
    mBlt (g1 allD) (mCons (mDe (mLc m vs p mYes e)) mNil) ρ = W.ret (false, .bl (xs.all t)) := by
  show (W.bind (W.bind (W.bind (W.bind (m ρ) fun ds => szd ds (W.bind (lcN p mYes e (wipeR ρ vs) ds) fun ys => W.ret (true, D.lst ys))) fun r => W.ret r.2) fun d => W.bind (W.ret []) fun ds => W.ret (d :: ds)) fun ds => W.calm (g1 allD ds)) = _
  rw [hm]
  show (W.bind (W.bind (W.bind (szd xs (W.bind (lcN p mYes e (wipeR ρ vs) xs) fun ys => W.ret (true, D.lst ys))) fun r => W.ret r.2) fun d => W.bind (W.ret []) fun ds => W.ret (d :: ds)) fun ds => W.calm (g1 allD ds)) = _
  unfold szd
  rw [if_pos hl, lcN_all (fun x => .bl (t x)) h]
  show W.calm (g1 allD [D.lst (xs.map fun x => D.bl (t x))]) = _
  have : (xs.map fun x => D.bl (t x)) = (xs.map t).map D.bl := by rw [List.map_map]; rfl
  rw [this]
  show W.calm (match (blsOf ((xs.map t).map D.bl)).map fun bs => D.bl (bs.all id) with | some e => W.ret (false, e) | none => W.fail) = _
  rw [blsOf_map]
  show W.ret (false, D.bl ((xs.map t).all id)) = _
  rw [List.all_map]; rfl
theorem sizeLine_ge : 1000 ≤ sizeLine := by rw [sizeLine_eq]; decide
theorem is_name_eq (x : Str) (h : x.length ≤ sizeLine) : sem_is_name [.str x] = W.ret (false, .bl (nameOk x)) := by
  refine run_ret _ _ _ _ [some (false, .str x), none] ?_
  have el : lenD (.str x) = some (.int x.length) := if_pos h
  have e0 : (mDe (mBlt (g1 lenD) (mCons (mVar 0) mNil))) [some (.str x), none] = W.ret (.int x.length) := by
    show (W.bind (W.calm (match lenD (.str x) with | some e => W.ret (false, e) | none => W.fail)) fun r => W.ret r.2 : W Ex D) = _
    rw [el]; rfl
  have e1 : (mChain gLe gLe (mC (.int 1)) (mDe (mBlt (g1 lenD) (mCons (mVar 0) mNil))) (mC (.int 4))) [some (.str x), none] = W.ret (.bl (decide (1 ≤ x.length) && decide (x.length ≤ 4))) := by
    show (W.bind ((mDe (mBlt (g1 lenD) (mCons (mVar 0) mNil))) [some (.str x), none]) fun b => W.bind (W.calm (gLe (.int 1) b)) fun t => W.bind (asB t) fun k => if k = true then W.bind (W.ret (.int 4)) fun c => W.calm (gLe b c) else W.ret (.bl false)) = _
    rw [e0]
    show (if decide ((1 : Int) ≤ x.length) = true then W.ret (D.bl (decide ((x.length : Int) ≤ 4))) else W.ret (.bl false) : W Ex D) = _
    have h1 : decide ((1 : Int) ≤ x.length) = decide (1 ≤ x.length) := decide_eq_decide.mpr (by omega)
    have h2 : decide ((x.length : Int) ≤ 4) = decide (x.length ≤ 4) := decide_eq_decide.mpr (by omega)
    rw [h1, h2]
    cases decide (1 ≤ x.length) <;> rfl
  have e2 : (mBlt (g1 allD) (mCons (mDe (mLc (mWalk (mVar 0)) [1] (pName 1) mYes (mOp (gIn false) (mVar 1) (mC (.str "abcdefghijklmnopqrstuvwxyz"))))) mNil)) [some (.str x), none] = W.ret (false, .bl (x.cps.toList.all fun c => decide (c ∈ letters.cps.toList))) := by
    rw [all_eq (x.cps.toList.map fun c => .str ⟨#[c]⟩) (fun d => match d with | .str z => strIn z letters | _ => false) rfl (by rw [List.length_map]; exact h) fun d hd => by
      obtain ⟨c, _, rfl⟩ := List.mem_map.mp hd
      refine ⟨[(1, .str ⟨#[c]⟩)], rfl, ?_⟩
      show W.ret (D.bl (strIn ⟨#[c]⟩ letters != false)) = W.ret (D.bl (strIn ⟨#[c]⟩ letters))
      rw [Bool.bne_false]]
    rw [List.all_map]
    rfl
  refine (guardB (!(decide (1 ≤ x.length) && decide (x.length ≤ 4))) _ (or_eq false _ rfl fun _ => not_eq _ (test_eq _ e1)) rfl fun _ => ret_eq e2).trans ?_
  rw [Bool.not_not]
  rfl
structure Per where
  nm : Str
  w : Int
  s : Int
  sp : Option (Int × Int)
def perD (p : Per) : D := .tup [.str p.nm, .int p.w, .int p.s, spD p.sp]
structure Met where
  day : Int
  one : Str
  other : Str
def metD (m : Met) : D := .tup [.int m.day, .str m.one, .str m.other]
def perOk (p : Per) : Bool := nameOk p.nm && (decide (1 ≤ p.w) && (decide (0 ≤ p.s) && spOk p.sp))
theorem is_person_eq (p : Per) (h : p.nm.length ≤ sizeLine) : sem_is_person [perD p] = W.ret (false, .bl (perOk p)) := by
  refine run_ret _ _ _ _ [some (false, perD p)] ?_
  have e1 : (mDe (mCall 1 sem_is_name [] (mCons (mOp gIx (mVar 0) (mC (.int 0))) mNil))) [some (perD p)] = W.ret (.bl (nameOk p.nm)) := de_eq (call_eq rfl rfl (is_name_eq _ h))
  have e2 : (mDe (mCall 1 sem_is_span [] (mCons (mOp gIx (mVar 0) (mC (.int 3))) mNil))) [some (perD p)] = W.ret (.bl (spOk p.sp)) := de_eq (call_eq rfl rfl (is_span_eq _))
  refine (guardB (!nameOk p.nm) _ (or_eq false _ rfl fun _ => or_eq false _ rfl fun _ => not_eq _ (test_eq _ e1)) rfl fun _ => ret_eq (dr_eq (andV_eq (decide (1 ≤ p.w)) _ rfl fun _ => andV_eq (decide (0 ≤ p.s)) _ rfl fun _ => e2))).trans ?_
  rw [Bool.not_not]
  rfl
theorem lookK_map {α : Type} (ks : α → Key) (f : α → D) : ∀ (l : List α) (k : Key), lookK (l.map fun a => (ks a, f a)) k = (l.find? fun a => decide (ks a = k)).map f
  | [], k => rfl
  | a :: l, k => by
    rw [List.map_cons, List.find?_cons]
    show (if ks a = k then some (f a) else lookK (l.map fun a => (ks a, f a)) k) = _
    by_cases h : ks a = k
    · rw [if_pos h, decide_eq_true h]; rfl
    · rw [if_neg h, decide_eq_false h, lookK_map ks f l k]
/-- a dict from pairwise different keys -/
theorem dcN_new {α : Type} {p : D → Option (List (Nat × D))} {c : Ro → W Ex Bool} {e f : Ro → W Ex D} {ρ : Ro} (t : α → Bool) (ks : α → Key) (g : α → D) (en : α → D) : ∀ (l : List α) (acc : List (Key × D)), ((acc.map (·.1)) ++ (l.filter t).map ks).Nodup →
    (∀ x ∈ l, ∃ bs y, p (en x) = some bs ∧ c (setR ρ bs) = W.ret (t x) ∧ (t x = true → e (setR ρ bs) = W.ret y ∧ keyOf y = some (ks x) ∧ f (setR ρ bs) = W.ret (g x))) → dcN p c e f ρ acc (l.map en) = W.ret (acc ++ (l.filter t).map fun a => (ks a, g a))
  | [], acc, _, _ => by rw [List.filter_nil, List.map_nil, List.map_nil, List.append_nil]; rfl
  | x :: l, acc, nd, h => by
    obtain ⟨bs, y, h1, h2, h3⟩ := h x List.mem_cons_self
    have hl := fun z hz => h z (List.mem_cons_of_mem _ hz)
    rw [List.map_cons]
    unfold dcN
    rw [h1]
    show (W.bind (W.calm (c (setR ρ bs))) fun b => if b = true then W.bind (W.calm (e (setR ρ bs))) fun y => W.bind (W.calm (f (setR ρ bs))) fun z => match keyOf y with
        | some k => dcN p c e f ρ (putD acc k z) (l.map en)
        | none => W.fail
      else dcN p c e f ρ acc (l.map en)) = _
    rw [h2]
    show (if t x = true then W.bind (W.calm (e (setR ρ bs))) fun y => W.bind (W.calm (f (setR ρ bs))) fun z => match keyOf y with
        | some k => dcN p c e f ρ (putD acc k z) (l.map en)
        | none => W.fail
      else dcN p c e f ρ acc (l.map en)) = _
    cases ht : t x with
    | false =>
      rw [if_neg Bool.false_ne_true]
      rw [List.filter_cons_of_neg (by rw [ht]; exact Bool.false_ne_true)] at nd ⊢
      exact dcN_new t ks g en l acc nd hl
    | true =>
      obtain ⟨e1, e2, e3⟩ := h3 ht
      rw [if_pos rfl, e1]
      show (W.bind (W.calm (f (setR ρ bs))) fun z => match keyOf y with
        | some k => dcN p c e f ρ (putD acc k z) (l.map en)
        | none => W.fail) = _
      rw [e3]
      show (match keyOf y with
        | some k => dcN p c e f ρ (putD acc k (g x)) (l.map en)
        | none => W.fail) = _
      rw [e2]
      show dcN p c e f ρ (putD acc (ks x) (g x)) (l.map en) = _
      rw [List.filter_cons_of_pos ht, List.map_cons] at nd ⊢
      have hno : (acc.any fun kv => decide (kv.1 = ks x)) = false := by
        rw [List.any_eq_false]
        intro kv hkv hk
        have hk : kv.1 = ks x := of_decide_eq_true hk
        exact (List.nodup_append.mp nd).2.2 _ (List.mem_map_of_mem hkv) _ List.mem_cons_self hk
      have hp : putD acc (ks x) (g x) = acc ++ [(ks x, g x)] := by
        unfold putD
        rw [hno]; rfl
      rw [hp, dcN_new t ks g en l _ (by rw [List.map_append, List.append_assoc]; exact nd) hl, List.append_assoc]
      rfl
end FbL
end

section
set_option Elab.async false
set_option linter.all false
set_option maxRecDepth 100000
set_option maxHeartbeats 4000000
namespace FbL
open PySem PySem.Spec PyProof.Rows L2 Fb
abbrev sOk (x : Str) : Bool := PySem.PyData.strOk x
theorem name_strOk {x : Str} (h : nameOk x = true) : sOk x = true := by
  unfold nameOk at h
  have h := (Bool.and_eq_true_iff.mp h).2
  show x.cps.all (fun c => decide (c < 0x110000)) = true
  rw [← Array.all_toList]
  rw [List.all_eq_true] at h ⊢
  intro c hc
  have := of_decide_eq_true (h c hc)
  refine decide_eq_true ?_
  have hb : ∀ c ∈ letters.cps.toList, c < 0x110000 := by decide
  exact hb c this
theorem name_len {x : Str} (h : nameOk x = true) : x.length ≤ 4 := by
  unfold nameOk at h
  exact of_decide_eq_true (Bool.and_eq_true_iff.mp (Bool.and_eq_true_iff.mp h).1).2
theorem name_size {x : Str} (h : nameOk x = true) : x.length ≤ sizeLine := Nat.le_trans (name_len h) (by rw [sizeLine_eq]; decide)
theorem shaped_int (i : Int) : SeqAt.shaped (.int i) = true := rfl
theorem shaped_str {x : Str} (h : sOk x = true) : SeqAt.shaped (.str x) = true := by
  show (sOk x && decide (0 ≤ 64)) = true
  rw [h]; rfl
theorem deq_int (a b : Int) : D.deq (.int a) (.int b) = some (a == b) := rfl
theorem deq_str {a b : Str} (h : sOk a = true) (h' : sOk b = true) : D.deq (.str a) (.str b) = some (a == b) := by
  show (if SeqAt.shaped (.str a) = true ∧ SeqAt.shaped (.str b) = true then some (PyData.eqv (.str a) (.str b)) else none) = _
  rw [if_pos ⟨shaped_str h, shaped_str h'⟩]; rfl
theorem eq_int (neg : Bool) (a b : Int) : gEq neg (.int a) (.int b) = W.ret (.bl ((a == b) != neg)) := rfl
theorem eq_str (neg : Bool) {a b : Str} (h : sOk a = true) (h' : sOk b = true) : gEq neg (.str a) (.str b) = W.ret (.bl ((a == b) != neg)) := by
  unfold gEq; rw [deq_str h h']
theorem pys_map {α : Type} (f : α → D) (g : α → PyData) (h : ∀ a, (f a).py = some (g a)) : ∀ l : List α, D.pys (l.map f) = some (l.map g)
  | [] => rfl
  | a :: l => by
    show (match D.py (f a), D.pys (l.map f) with | some p, some ps => some (p :: ps) | _, _ => none) = _
    rw [h, pys_map f g h l]; rfl
theorem canLay_all : ∀ {l : List PyData}, (∀ d ∈ l, d.canLay0 = true) → PyData.canLayAll0 l = true
  | [], _ => rfl
  | a :: l, h => by
    show (a.canLay0 && PyData.canLayAll0 l) = true
    rw [h a List.mem_cons_self, canLay_all fun d hd => h d (List.mem_cons_of_mem _ hd)]; rfl
theorem depth_all {n : Nat} : ∀ {l : List PyData}, (∀ d ∈ l, d.depth ≤ n) → PyData.depthAll l ≤ n
  | [], _ => Nat.zero_le _
  | a :: l, h => by
    show max a.depth (PyData.depthAll l) ≤ n
    exact Nat.max_le.mpr ⟨h a List.mem_cons_self, depth_all fun d hd => h d (List.mem_cons_of_mem _ hd)⟩
theorem shaped_list {l : List PyData} (h : ∀ d ∈ l, d.canLay0 = true ∧ d.depth ≤ 60) : SeqAt.shaped (.list l) = true ∧ SeqAt.shaped (.tuple l) = true := by
  have h1 := canLay_all fun d hd => (h d hd).1
  have h2 := depth_all fun d hd => (h d hd).2
  constructor
  · show (PyData.canLayAll0 l && decide (PyData.depthAll l + 1 ≤ 64)) = true
    rw [h1, decide_eq_true (by omega)]; rfl
  · show (PyData.canLayAll0 l && decide (PyData.depthAll l + 1 ≤ 64)) = true
    rw [h1, decide_eq_true (by omega)]; rfl
theorem seqIn_strs {x : Str} {l : List Str} (hx : sOk x = true) (h : ∀ y ∈ l, sOk y = true) : seqIn (l.map D.str) (.str x) = some (l.any fun y => y == x) := by
  have hs := shaped_list (l := l.map PyData.str) fun d hd => by
    obtain ⟨y, hy, rfl⟩ := List.mem_map.mp hd
    exact ⟨h y hy, Nat.zero_le _⟩
  unfold seqIn
  rw [pys_map D.str PyData.str (fun _ => rfl)]
  show (if SeqAt.shaped (.str x) = true ∧ SeqAt.shaped (.list (l.map PyData.str)) = true ∧ SeqAt.shaped (.tuple (l.map PyData.str)) = true then some ((l.map PyData.str).any fun z => PyData.eqv z (.str x)) else none) = _
  rw [if_pos ⟨shaped_str hx, hs.1, hs.2⟩, List.any_map]
  rfl
theorem in_strs (neg : Bool) {x : Str} {l : List Str} (hx : sOk x = true) (h : ∀ y ∈ l, sOk y = true) : gIn neg (.str x) (.lst (l.map D.str)) = W.ret (.bl ((l.any fun y => y == x) != neg)) := by
  unfold gIn
  show (match seqIn (l.map D.str) (.str x) with | some t => W.ret (D.bl (t != neg)) | none => W.fail) = _
  rw [seqIn_strs hx h]
/-! ### people -/
def wrapD (t : Bool) (l : List D) : D := if t = true then .tup l else .lst l
theorem is_seq_wrap (t : Bool) (l : List D) : sem_is_sequence [wrapD t l] = W.ret (false, .bl true) := by cases t <;> rfl
theorem len_wrap (t : Bool) (l : List D) : lenD (wrapD t l) = some (.int l.length) := by cases t <;> rfl
theorem walk_wrap (t : Bool) (l : List D) : walkD (wrapD t l) = W.ret l := by cases t <;> rfl
theorem len_eq {m : Ro → W Ex D} {ρ : Ro} {d r : D} (hm : m ρ = W.ret d) (h : lenD d = some r) : (mDe (mBlt (g1 lenD) (mCons m mNil))) ρ = W.ret r := by
  refine de_eq (b := false) (blt_eq (cons_eq hm rfl) ?_)
  show (match lenD d with | some e => W.ret (false, e) | none => W.fail) = _
  rw [h]
theorem walk_eq {m : Ro → W Ex D} {ρ : Ro} {d : D} {l : List D} (hm : m ρ = W.ret d) (h : walkD d = W.ret l) : mWalk m ρ = W.ret l := by
  show W.bind (m ρ) walkD = _
  rw [hm]; exact h
theorem lc_eq {m : Ro → W Ex (List D)} {p : D → Option (List (Nat × D))} {vs : List Nat} {e : Ro → W Ex D} {ρ : Ro} {xs ys : List D} (hm : m ρ = W.ret xs) (hl : xs.length ≤ sizeLine) (h : lcN p mYes e (wipeR ρ vs) xs = W.ret ys) : mLc m vs p mYes e ρ = W.ret (true, .lst ys) := by
  show W.bind (m ρ) (fun ds => szd ds (W.bind (lcN p mYes e (wipeR ρ vs) ds) fun ys => W.ret (true, D.lst ys))) = _
  rw [hm]
  show szd xs _ = _
  unfold szd
  rw [if_pos hl, h]; rfl
theorem dc_eq {m : Ro → W Ex (List D)} {p : D → Option (List (Nat × D))} {vs : List Nat} {c : Ro → W Ex Bool} {e f : Ro → W Ex D} {ρ : Ro} {xs : List D} {ys : List (Key × D)} (hm : m ρ = W.ret xs) (hl : xs.length ≤ sizeLine) (h : dcN p c e f (wipeR ρ vs) [] xs = W.ret ys) : mDc m vs p c e f ρ = W.ret (true, .dic ys) := by
  show W.bind (m ρ) (fun ds => szd ds (W.bind (dcN p c e f (wipeR ρ vs) [] ds) fun ys => W.ret (true, D.dic ys))) = _
  rw [hm]
  show szd xs _ = _
  unfold szd
  rw [if_pos hl, h]; rfl
theorem are_people_eq (t : Bool) (ps : List Per) (hn : ps ≠ []) (hl : ps.length ≤ sizeLine) (ho : ∀ p ∈ ps, perOk p = true) (nd : (ps.map (·.nm)).Nodup) : sem_are_people [wrapD t (ps.map perD)] = W.ret (false, .bl true) := by
  have hnm : ∀ p ∈ ps, nameOk p.nm = true := fun p hp => by
    have := ho p hp
    unfold perOk at this
    exact (Bool.and_eq_true_iff.mp this).1
  refine run_ret _ _ _ _ [some (false, wrapD t (ps.map perD)), none] ?_
  have e1 := len_eq (m := mVar 0) (ρ := [some (wrapD t (ps.map perD)), none]) rfl (len_wrap t (ps.map perD))
  rw [List.length_map] at e1
  have e2 : mBlt (g1 allD) (mCons (mDe (mLc (mWalk (mVar 0)) [1] (pName 1) mYes (mDe (mCall 1 sem_is_person [] (mCons (mVar 1) mNil))))) mNil) [some (wrapD t (ps.map perD)), none] = W.ret (false, .bl true) := by
    rw [all_eq (ps.map perD) (fun _ => true) (walk_eq (m := mVar 0) rfl (walk_wrap t _)) (by rw [List.length_map]; exact hl) fun d hd => by
      obtain ⟨p, hp, rfl⟩ := List.mem_map.mp hd
      refine ⟨_, rfl, ?_⟩
      have := is_person_eq p (name_size (hnm p hp))
      rw [ho p hp] at this
      exact de_eq (b := false) (call_eq (ds := [perD p]) rfl rfl this)]
    rw [List.all_eq_true.mpr fun _ _ => rfl]
  have hne : ((ps.length : Int) == 0) = false := by
    cases ps with
    | nil => exact absurd rfl hn
    | cons a l => exact beq_eq_false_iff_ne.mpr (by rw [List.length_cons]; omega)
  have e3 := dc_eq (p := pName 1) (c := mYes) (e := mOp gIx (mVar 1) (mC (.int 0))) (f := mC (.bl true)) (vs := [1]) (walk_eq (m := mVar 0) (ρ := [some (wrapD t (ps.map perD)), none]) rfl (walk_wrap t (ps.map perD))) (by rw [List.length_map]; exact hl)
    (dcN_new (fun _ => true) (fun p : Per => Sum.inr p.nm) (fun _ => D.bl true) perD ps [] (by
      rw [List.filter_eq_self.mpr fun _ _ => rfl]
      have : (ps.map fun p : Per => (Sum.inr p.nm : Key)) = (ps.map (·.nm)).map Sum.inr := by rw [List.map_map]; rfl
      rw [List.map_nil, List.nil_append, this]
      exact nd.map _ fun a b hne h => hne (Sum.inr.inj h)) fun p _ => ⟨[(1, perD p)], .str p.nm, rfl, rfl, fun _ => ⟨rfl, rfl, rfl⟩⟩)
  refine (guardB false true (or_eq false false (not_eq true (test_eq true (de_eq (b := false) (call_eq rfl rfl (is_seq_wrap t _))))) fun _ => or_eq false false (test_eq _ (op_eq e1 rfl ?_)) fun _ => not_eq true (test_eq true (de_eq e2))) rfl fun _ => ret_eq (dr_eq (op_eq (len_eq (de_eq e3) rfl) e1 ?_))).trans rfl
  · rw [eq_int]; rw [hne]; rfl
  · rw [eq_int]
    rw [List.nil_append, List.length_map, List.filter_eq_self.mpr fun _ _ => rfl, beq_self_eq_true]; rfl
end FbL
end

section
set_option Elab.async false
set_option linter.all false
set_option maxRecDepth 100000
set_option maxHeartbeats 4000000
namespace FbL
open PySem PySem.Spec PyProof.Rows L2 Fb
/-! ### meetings -/
def metOk (ns : List Str) (m : Met) : Bool := decide (0 ≤ m.day) && (nameOk m.one && nameOk m.other && !(m.one == m.other) && ((ns.any fun y => y == m.one) && (ns.any fun y => y == m.other)))
theorem is_meeting_ok (ns : List Str) (hns : ∀ y ∈ ns, nameOk y = true) (m : Met) (h : metOk ns m = true) : sem_is_meeting [.lst (ns.map D.str), metD m] = W.ret (false, .bl true) := by
  unfold metOk at h
  obtain ⟨h0, h⟩ := Bool.and_eq_true_iff.mp h
  obtain ⟨h1, h2⟩ := Bool.and_eq_true_iff.mp h
  obtain ⟨h1, h3⟩ := Bool.and_eq_true_iff.mp h1
  obtain ⟨ha, hb⟩ := Bool.and_eq_true_iff.mp h1
  obtain ⟨hi, hj⟩ := Bool.and_eq_true_iff.mp h2
  have hne : (m.one == m.other) = false := by simpa using h3
  have ok := fun y hy => name_strOk (hns y hy)
  refine run_ret _ _ _ _ [some (false, .lst (ns.map D.str)), some (false, metD m)] ?_
  have e0 : (mDe (mCall 1 sem_is_number [] (mCons (mOp gIx (mVar 1) (mC (.int 0))) mNil))) [some (.lst (ns.map D.str)), some (metD m)] = W.ret (.bl (decide (0 ≤ m.day))) := rfl
  have e1 : (mDe (mCall 1 sem_is_name [] (mCons (mOp gIx (mVar 1) (mC (.int 1))) mNil))) [some (.lst (ns.map D.str)), some (metD m)] = W.ret (.bl (nameOk m.one)) := de_eq (call_eq (ds := [.str m.one]) rfl rfl (is_name_eq _ (name_size ha)))
  have e2 : (mDe (mCall 1 sem_is_name [] (mCons (mOp gIx (mVar 1) (mC (.int 2))) mNil))) [some (.lst (ns.map D.str)), some (metD m)] = W.ret (.bl (nameOk m.other)) := de_eq (call_eq (ds := [.str m.other]) rfl rfl (is_name_eq _ (name_size hb)))
  rw [h0] at e0
  rw [ha] at e1
  rw [hb] at e2
  refine (guardB false true (or_eq false false rfl fun _ => or_eq false false rfl fun _ => not_eq true (test_eq true e0)) rfl fun _ => guardB false true (or_eq false false (not_eq true (test_eq true e1)) fun _ => or_eq false false (not_eq true (test_eq true e2)) fun _ => test_eq false (op_eq (a := .str m.one) (b := .str m.other) rfl rfl ?_)) rfl fun _ => ret_eq (dr_eq (andV_eq true true (op_eq (a := .str m.one) (b := .lst (ns.map D.str)) rfl rfl ?_) fun _ => op_eq (a := .str m.other) (b := .lst (ns.map D.str)) rfl rfl ?_))).trans rfl
  · rw [eq_str false (name_strOk ha) (name_strOk hb), hne]; rfl
  · rw [in_strs false (name_strOk ha) ok, hi]; rfl
  · rw [in_strs false (name_strOk hb) ok, hj]; rfl
/-! ### plans -/
structure Pl where
  ps : List Per
  ms : List Met
def Pl.names (P : Pl) : List Str := P.ps.map (·.nm)
structure Pl.Ok (P : Pl) : Prop where
  ne : P.ps ≠ []
  lp : P.ps.length ≤ sizeLine
  lm : P.ms.length ≤ sizeLine
  per : ∀ p ∈ P.ps, perOk p = true
  nd : P.names.Nodup
  met : ∀ m ∈ P.ms, metOk P.names m = true
def plF (P : Pl) : List (Str × D) := [("people", .tup (P.ps.map perD)), ("meetings", .tup (P.ms.map metD))]
def plD (P : Pl) : D := .ins "Plan" (plF P)
theorem Pl.Ok.nm {P : Pl} (h : P.Ok) : ∀ y ∈ P.names, nameOk y = true := fun y hy => by
  obtain ⟨p, hp, rfl⟩ := List.mem_map.mp hy
  have := h.per p hp
  unfold perOk at this
  exact (Bool.and_eq_true_iff.mp this).1
theorem known_eq {m : Ro → W Ex (List D)} {vs : List Nat} {i : Nat} {ρ : Ro} (ps : List Per) (hm : m ρ = W.ret (ps.map perD)) (hl : ps.length ≤ sizeLine) (hv : ∀ d, gotD (setR (wipeR ρ vs) [(i, d)])[i]? = W.ret d) : mLc m vs (pName i) mYes (mOp gIx (mVar i) (mC (.int 0))) ρ = W.ret (true, .lst ((ps.map (·.nm)).map D.str)) := by
  refine lc_eq hm (by rw [List.length_map]; exact hl) ?_
  rw [lcN_all (fun d => match ixD d (.int 0) with | some z => z | none => .non) fun d hd => by
    obtain ⟨p, hp, rfl⟩ := List.mem_map.mp hd
    exact ⟨[(i, perD p)], rfl, op_eq (hv _) rfl rfl⟩]
  rw [List.map_map, List.map_map]; rfl
theorem tuple_wrap (t : Bool) (l : List D) : gTuple [wrapD t l] = W.ret (false, .tup l) := by cases t <;> rfl
theorem icons_eq {m : En → WS} {n : IW} {ρ ρ' : En} (h : m ρ = W.ret (.nx, ρ')) (hr : rawAt ρ'[0]? = rawAt ρ[0]?) : mIcons m n ρ = n ρ' := by
  show W.bind (m ρ) _ = _
  rw [h]
  show (if rawAt ρ'[0]? = rawAt ρ[0]? then n ρ' else W.fail) = _
  rw [if_pos hr]
theorem imms_strs : ∀ l : List Str, imms (l.map D.str) = true
  | [] => rfl
  | _ :: l => imms_strs l
theorem noins_pers : ∀ l : List Per, noinss (l.map perD) = true
  | [] => rfl
  | p :: l => by
    have : noins (perD p) = true := by rcases p with ⟨_, _, _, _ | ⟨a, b⟩⟩ <;> rfl
    show (noins (perD p) && noinss (l.map perD)) = true
    rw [this, noins_pers l]; rfl
theorem noins_mets : ∀ l : List Met, noinss (l.map metD) = true
  | [] => rfl
  | p :: l => noins_mets l
theorem noins_wrap (t : Bool) {l : List D} (h : noinss l = true) : noins (wrapD t l) = true := by cases t <;> exact h
theorem runIni_ret {n : Nat} {b : IW} {ds : List D} {fs : List (Str × D)} (h : ∀ x, b (initI n x ds) = W.ret fs) : runIni n b ds = W.ret fs := by
  funext Q E
  refine propext ⟨fun z => ?_, fun z x => ?_⟩
  · have z := z 0
    rw [h] at z
    exact z
  · rw [h]; exact z
theorem set_eq {fz : List Nat} {i : Nat} {m : Ro → W Ex (Bool × D)} {ρ ρ' : En} {r : Bool × D} (h : m (see fz ρ) = W.ret r) (ha : asg fz i r ρ = ρ') : mSet fz i m ρ = W.ret (.nx, ρ') := by
  show W.bind (up ρ (m (see fz ρ))) _ = _
  rw [h, ← ha]; rfl
theorem asg_imm {fz : List Nat} {i : Nat} {r : Bool × D} {ρ : En} (h : (if r.1 then immTop r.2 else imm r.2) = true) : asg fz i r ρ = ρ.set i (some r) := by
  unfold asg; rw [if_pos h]
theorem flds2 {ρ : En} {f g : Str} {m n : Ro → W Ex D} {a b : D} (hne : (f = g) = False) (hm : m (roI (ro ρ)) = W.ret a) (hn : n (roI (ro ρ)) = W.ret b) (ha : noins a = true) (hb : noins b = true) : mFlds [(f, m), (g, n)] ρ = W.ret [(f, a), (g, b)] := by
  funext Q E
  show (W.bind (W.calm (m (roI (ro ρ)))) fun d => if noins d = true ∧ ([] : List (Str × D)).length < 1000 then W.bind (W.calm (n (roI (ro ρ)))) fun d' => if noins d' = true ∧ (putFD f d []).length < 1000 then W.ret (putFD g d' (putFD f d [])) else W.fail else W.fail) Q (fun _ => False) = _
  rw [hm, hn]
  show (if noins a = true ∧ ([] : List (Str × D)).length < 1000 then (if noins b = true ∧ (putFD f a []).length < 1000 then W.ret (putFD g b (putFD f a [])) else W.fail) else W.fail : W Ex (List (Str × D))) Q (fun _ => False) = _
  rw [if_pos ⟨ha, Nat.succ_pos _⟩, if_pos ⟨hb, (by show 1 < 1000; decide)⟩]
  show Q (if f = g then (f, b) :: [] else (f, a) :: [(g, b)]) = Q [(f, a), (g, b)]
  rw [if_neg (by rw [hne]; exact id)]
theorem roI_ok {d : D} (h : noins d = true) {ρ : Ro} {i : Nat} (hi : ρ[i]? = some (some d)) : (roI ρ)[i]? = some (some d) := by
  unfold roI
  rw [List.getElem?_map, hi]
  show some (if noins d = true then some d else none) = _
  rw [if_pos h]
theorem ini_eq (P : Pl) (h : P.Ok) (t u : Bool) : sem_Plan___init__ [wrapD t (P.ps.map perD), wrapD u (P.ms.map metD)] = W.ret (plF P) := by
  refine runIni_ret fun x => ?_
  have e1 : (mIf (mNot (mTest (mDe (mCall 1 sem_are_people [] (mCons (mVar 1) mNil))))) mNo mSkip) (initI 6 x [wrapD t (P.ps.map perD), wrapD u (P.ms.map metD)]) = W.ret (.nx, initI 6 x [wrapD t (P.ps.map perD), wrapD u (P.ms.map metD)]) :=
    if_eq false (not_eq true (test_eq true (de_eq (b := false) (call_eq (ds := [wrapD t (P.ps.map perD)]) rfl rfl (are_people_eq t P.ps h.ne h.lp h.per h.nd)))))
  have e2 : mSet [1] 3 (mLc (mWalk (mVar 1)) [4] (pName 4) mYes (mOp gIx (mVar 4) (mC (.int 0)))) (initI 6 x [wrapD t (P.ps.map perD), wrapD u (P.ms.map metD)]) = W.ret (.nx, [some (false, .raw x), some (false, wrapD t (P.ps.map perD)), some (false, wrapD u (P.ms.map metD)), some (true, .lst (P.names.map D.str)), none, none]) :=
    set_eq (known_eq P.ps (walk_eq (m := mVar 1) rfl (walk_wrap t _)) h.lp fun d => rfl) (asg_imm (imms_strs _))
  have e3 : (mIf (mOr (mNot (mTest (mDe (mCall 1 sem_is_sequence [] (mCons (mVar 2) mNil))))) (mNot (mTest (mDe (mBlt (g1 allD) (mCons (mDe (mLc (mWalk (mVar 2)) [5] (pName 5) mYes (mDe (mCall 2 sem_is_meeting [] (mCons (mVar 3) (mCons (mVar 5) mNil)))))) mNil)))))) mNo mSkip) [some (false, .raw x), some (false, wrapD t (P.ps.map perD)), some (false, wrapD u (P.ms.map metD)), some (true, .lst (P.names.map D.str)), none, none] = W.ret (.nx, [some (false, .raw x), some (false, wrapD t (P.ps.map perD)), some (false, wrapD u (P.ms.map metD)), some (true, .lst (P.names.map D.str)), none, none]) := by
    refine if_eq false (or_eq false false (not_eq true (test_eq true (de_eq (b := false) (call_eq (ds := [wrapD u (P.ms.map metD)]) rfl rfl (is_seq_wrap u _))))) fun _ => not_eq true (test_eq true (de_eq (b := false) ?_)))
    rw [all_eq (P.ms.map metD) (fun _ => true) (walk_eq (m := mVar 2) (d := wrapD u (P.ms.map metD)) rfl (walk_wrap u _)) (by rw [List.length_map]; exact h.lm) fun d hd => by
      obtain ⟨m, hm, rfl⟩ := List.mem_map.mp hd
      exact ⟨_, rfl, de_eq (b := false) (call_eq (ds := [.lst (P.names.map D.str), metD m]) rfl rfl (is_meeting_ok P.names h.nm m (h.met m hm)))⟩]
    rw [List.all_eq_true.mpr fun _ _ => rfl]
  refine (icons_eq e1 rfl).trans ((icons_eq e2 rfl).trans ((icons_eq e3 rfl).trans (flds2 (eq_false (by decide)) ?_ ?_ (noins_wrap true (noins_pers _)) (noins_wrap true (noins_mets _)))))
  · refine de_eq (b := false) (blt_eq (ds := [wrapD t (P.ps.map perD)]) (cons_eq (d := wrapD t (P.ps.map perD)) ?_ rfl) (tuple_wrap t _))
    show gotD (roI _)[1]? = _
    rw [roI_ok (noins_wrap t (noins_pers P.ps)) rfl]; rfl
  · refine de_eq (b := false) (blt_eq (ds := [wrapD u (P.ms.map metD)]) (cons_eq (d := wrapD u (P.ms.map metD)) ?_ rfl) (tuple_wrap u _))
    show gotD (roI _)[2]? = _
    rw [roI_ok (noins_wrap u (noins_mets P.ms)) rfl]; rfl
theorem make_eq (P : Pl) (h : P.Ok) (t u : Bool) {a : Ro → W Ex (List D)} {ρ : Ro} (ha : a ρ = W.ret [wrapD t (P.ps.map perD), wrapD u (P.ms.map metD)]) : mMake "Plan" 3 sem_Plan___init__ [] a ρ = W.ret (false, plD P) := by
  show (W.bind (a ρ) fun ds => if (ds ++ []).length + 1 = 3 then W.bind (sem_Plan___init__ (ds ++ [])) fun fs => W.ret (false, D.ins "Plan" fs) else W.fail) = _
  rw [ha]
  show (W.bind (sem_Plan___init__ [wrapD t (P.ps.map perD), wrapD u (P.ms.map metD)]) fun fs => W.ret (false, D.ins "Plan" fs)) = _
  rw [ini_eq P h]; rfl
theorem names_eq (P : Pl) (h : P.ps.length ≤ sizeLine) : sem_Plan_names [plD P] = W.ret (false, .tup (P.names.map D.str)) := by
  refine run_ret _ _ _ _ [some (false, plD P), none] (ret_eq (blt_eq (ds := [.lst (P.names.map D.str)]) (cons_eq (de_eq (b := true) (known_eq P.ps rfl h fun d => rfl)) rfl) rfl))
theorem prop_names (P : Pl) (h : P.ps.length ≤ sizeLine) {m : Ro → W Ex D} {ρ : Ro} (hm : m ρ = W.ret (plD P)) : mProp "Plan" sem_Plan_names m ρ = W.ret (false, .tup (P.names.map D.str)) := by
  show (W.bind (m ρ) fun d => W.got (asIns "Plan" d) fun _ => W.calm (sem_Plan_names [d])) = _
  rw [hm]
  show (W.calm (sem_Plan_names [plD P])) = _
  rw [names_eq P h]; rfl
end FbL
end

section
set_option Elab.async false
set_option linter.all false
set_option maxRecDepth 100000
set_option maxHeartbeats 4000000
namespace FbL
open PySem PySem.Spec PyProof.Rows L2 Fb
def optD : Option Int → D
  | none => .non
  | some i => .int i
theorem imm_opt (o : Option Int) : imm (optD o) = true := by cases o <;> rfl
def minM (day : Int) : Option Int → Option Int
  | none => some day
  | some y => some (if y < day then y else day)
def passM (g : Option Int) (w day : Int) (t : Option Int) : Option Int := match g with
  | none => t
  | some x => if day < x + w then t else minM day t
theorem passed_eq (g : Option Int) (w day : Int) (t : Option Int) : sem_passed [optD g, .int w, .int day, optD t] = W.ret (false, optD (passM g w day t)) := by
  refine run_ret _ _ _ _ [some (false, optD g), some (false, .int w), some (false, .int day), some (false, optD t)] ?_
  rcases g with _ | x
  · exact (seq_rt (ρ' := _) (r := (false, optD t)) ((if_eq true rfl).trans rfl)).trans rfl
  · have c : (mOr (mTest (mOp (gIs false) (mVar 0) (mC .non))) (mTest (mOp gGt (mDe (mOpR gAdd (mVar 0) (mVar 1))) (mVar 2)))) [some (.int x), some (.int w), some (.int day), some (optD t)] = W.ret (decide (day < x + w)) := or_eq false _ rfl fun _ => rfl
    by_cases h : day < x + w
    · rw [decide_eq_true h] at c
      have hp : passM (some x) w day t = t := if_pos h
      rw [hp]
      exact (seq_rt (ρ' := _) (r := (false, optD t)) ((if_eq true c).trans rfl)).trans rfl
    · rw [decide_eq_false h] at c
      have hp : passM (some x) w day t = minM day t := if_neg h
      rw [hp]
      refine (seq_nx (ρ' := _) ((if_eq false c).trans rfl)).trans ?_
      rcases t with _ | y
      · rfl
      · rfl
/-! ### dicts of days -/
def dayD (ns : List Str) (f : Str → Option Int) : List (Key × D) := ns.map fun n => (Sum.inr n, optD (f n))
def upd1 (f : Str → Option Int) (n : Str) (v : Option Int) : Str → Option Int := fun m => if m = n then v else f m
theorem find_key {ns : List Str} {n : Str} (h : n ∈ ns) : (ns.find? fun m => decide ((Sum.inr m : Key) = Sum.inr n)) = some n := by
  induction ns with
  | nil => cases h
  | cons a l ih =>
    rw [List.find?_cons]
    by_cases e : a = n
    · subst e; rw [decide_eq_true rfl]
    · rw [decide_eq_false fun z => e (Sum.inr.inj z)]
      exact ih ((List.mem_cons.mp h).resolve_left fun z => e z.symm)
theorem look_day {ns : List Str} {f : Str → Option Int} {n : Str} (h : n ∈ ns) : lookK (dayD ns f) (.inr n) = some (optD (f n)) := by
  unfold dayD
  rw [lookK_map (fun n => Sum.inr n) (fun n => optD (f n)), find_key h]; rfl
theorem put_day {ns : List Str} {f : Str → Option Int} {n : Str} {v : Option Int} (h : n ∈ ns) : putD (dayD ns f) (.inr n) (optD v) = dayD ns (upd1 f n v) := by
  have ha : ((dayD ns f).any fun kv => decide (kv.1 = Sum.inr n)) = true := List.any_eq_true.mpr ⟨(Sum.inr n, optD (f n)), List.mem_map.mpr ⟨n, h, rfl⟩, decide_eq_true rfl⟩
  unfold putD
  rw [if_pos ha]
  unfold dayD
  rw [List.map_map]
  refine List.map_congr_left fun m _ => ?_
  show (if (Sum.inr m : Key) = Sum.inr n then ((Sum.inr m : Key), optD v) else (Sum.inr m, optD (f m))) = (Sum.inr m, optD (upd1 f n v m))
  unfold upd1
  by_cases e : m = n
  · rw [if_pos e, if_pos (by rw [e])]
  · rw [if_neg e, if_neg fun z => e (Sum.inr.inj z)]
theorem immK_day (ns : List Str) (f : Str → Option Int) : immK (dayD ns f) = true := by
  induction ns with
  | nil => rfl
  | cons a l ih =>
    show (imm (optD (f a)) && immK (dayD l f)) = true
    rw [imm_opt, ih]; rfl
/-! ### the sorted rows -/
def leM (a b : Met) : Bool := leD (metD a) (metD b)
theorem sorted_mets (t : Bool) (ms : List Met) (hl : ms.length ≤ sizeLine) : gSorted [wrapD t (ms.map metD)] = W.ret (true, .lst ((ms.mergeSort leM).map metD)) := by
  have hs : sortOk (ms.map metD) = true := by
    have h1 : ∀ (q : D → Bool), (∀ m, q (metD m) = true) → (ms.map metD).all q = true := fun q hq => by
      rw [List.all_map]; exact List.all_eq_true.mpr fun m _ => hq m
    unfold sortOk
    exact Bool.and_eq_true_iff.mpr ⟨Bool.and_eq_true_iff.mpr ⟨Bool.and_eq_true_iff.mpr ⟨h1 _ fun m => rfl, h1 _ fun m => h1 _ fun m' => rfl⟩, Bool.or_eq_true_iff.mpr (.inl (h1 _ fun m => rfl))⟩, decide_eq_true (by rw [List.length_map]; exact hl)⟩
  have hm : (ms.map metD).mergeSort leD = (ms.mergeSort leM).map metD := (List.map_mergeSort (r := leM) (s := leD) (f := metD) (l := ms) fun a _ b _ => rfl).symm
  cases t
  · show (if sortOk (ms.map metD) = true then W.ret (true, D.lst ((ms.map metD).mergeSort leD)) else W.fail) = _
    rw [if_pos hs, hm]
  · show (if sortOk (ms.map metD) = true then W.ret (true, D.lst ((ms.map metD).mergeSort leD)) else W.fail) = _
    rw [if_pos hs, hm]
def stepM (wt : Str → Int) (f : Str → Option Int) (m : Met) : Str → Option Int :=
  upd1 (upd1 f m.other (passM (f m.one) (wt m.one) m.day (f m.other))) m.one (passM (f m.other) (wt m.other) m.day (f m.one))
end FbL
end

section
set_option Elab.async false
set_option linter.all false
set_option maxRecDepth 100000
set_option maxHeartbeats 4000000
namespace FbL
open PySem PySem.Spec PyProof.Rows L2 Fb
theorem dput_eq {fz : List Nat} {i : Nat} {mk m : Ro → W Ex D} {ρ : En} {kvs : List (Key × D)} {d k : D} {ky : Key} (h0 : ρ[i]? = some (some (true, .dic kvs))) (hm : m (see fz ρ) = W.ret d) (hk : mk (ro ρ) = W.ret k) (hy : keyOf k = some ky) (hi : imm d = true) (hl : kvs.length < sizeLine) :
    mDput fz i mk m ρ = W.ret (.nx, ρ.set i (some (true, .dic (putD kvs ky d)))) := by
  show (W.got (slotK ρ[i]?) fun kvs => W.bind (up ρ (m (see fz ρ))) fun d => W.bind (up ρ (mk (ro ρ))) fun k => W.got (keyOf k) fun ky => W.got (tak fz i d ρ) fun ρ' => if kvs.length < sizeLine then W.ret (Fl.nx, ρ'.set i (some (true, D.dic (putD kvs ky d)))) else W.fail) = _
  rw [h0]
  show (W.bind (up ρ (m (see fz ρ))) fun d => W.bind (up ρ (mk (ro ρ))) fun k => W.got (keyOf k) fun ky => W.got (tak fz i d ρ) fun ρ' => if kvs.length < sizeLine then W.ret (Fl.nx, ρ'.set i (some (true, D.dic (putD kvs ky d)))) else W.fail) = _
  rw [hm, hk]
  show (W.got (keyOf k) fun ky => W.got (tak fz i d ρ) fun ρ' => if kvs.length < sizeLine then W.ret (Fl.nx, ρ'.set i (some (true, D.dic (putD kvs ky d)))) else W.fail) = _
  rw [hy]
  show (W.got (if imm d = true then some ρ else if i ∈ fz then none else some (frz fz ρ)) fun ρ' => if kvs.length < sizeLine then W.ret (Fl.nx, ρ'.set i (some (true, D.dic (putD kvs ky d)))) else W.fail) = _
  rw [if_pos hi]
  show (if kvs.length < sizeLine then W.ret (Fl.nx, ρ.set i (some (true, D.dic (putD kvs ky d)))) else W.fail) = _
  rw [if_pos hl]
theorem tup_eq {m : Ro → W Ex (List D)} {ρ : Ro} {ds : List D} (h : m ρ = W.ret ds) (hl : ds.length ≤ sizeLine) : mTup m ρ = W.ret (.tup ds) := by
  show W.bind (m ρ) (fun ds => szd ds (W.ret (D.tup ds))) = _
  rw [h]
  show (if ds.length ≤ sizeLine then W.ret (D.tup ds) else W.fail) = _
  rw [if_pos hl]
theorem ix_day {ns : List Str} {f : Str → Option Int} {n : Str} (h : n ∈ ns) : gIx (.dic (dayD ns f)) (.str n) = W.ret (optD (f n)) := by
  unfold gIx
  show (match lookK (dayD ns f) (.inr n) with | some d => W.ret d | none => W.fail) = _
  rw [look_day h]
theorem ix_look {ks : List (Key × D)} {n : Str} {d : D} (h : lookK ks (.inr n) = some d) : gIx (.dic ks) (.str n) = W.ret d := by
  unfold gIx
  show (match lookK ks (.inr n) with | some d => W.ret d | none => W.fail) = _
  rw [h]
theorem small {n : Nat} (h : n ≤ 1000) : n ≤ sizeLine := Nat.le_trans h sizeLine_ge
/-- the slots of days_by -/
def dbE (A F : D) (ns : List Str) (wk : List (Key × D)) (f : Str → Option Int) (a b c e : Option (Bool × D)) : En := [some (false, A), some (false, F), some (true, .dic (dayD ns f)), some (true, .dic wk), a, b, c, e, none, none]
def dbBody : En → WS := (mSeq (mSet [2, 5, 6] 7 (mDr (mTup (mCons (mOp gIx (mVar 2) (mVar 5)) (mCons (mOp gIx (mVar 2) (mVar 6)) mNil))))) (mSeq (mDput [4, 7, 3, 5] 2 (mVar 6) (mDe (mCall 4 sem_passed [] (mCons (mOp gIx (mVar 7) (mC (.int 0))) (mCons (mOp gIx (mVar 3) (mVar 5)) (mCons (mVar 4) (mCons (mOp gIx (mVar 7) (mC (.int 1))) mNil))))))) (mDput [4, 7, 3, 6] 2 (mVar 5) (mDe (mCall 4 sem_passed [] (mCons (mOp gIx (mVar 7) (mC (.int 1))) (mCons (mOp gIx (mVar 3) (mVar 6)) (mCons (mVar 4) (mCons (mOp gIx (mVar 7) (mC (.int 0))) mNil)))))))))
theorem dbBody_eq {A F : D} {ns : List Str} {wk : List (Key × D)} {wt : Str → Int} (hl : ns.length < sizeLine) (hw : ∀ n ∈ ns, lookK wk (.inr n) = some (.int (wt n))) (f : Str → Option Int) (m : Met) (h1 : m.one ∈ ns) (h2 : m.other ∈ ns) (a b c e : Option (Bool × D)) :
    dbBody (dbE A F ns wk f (some (false, .int m.day)) (some (false, .str m.one)) (some (false, .str m.other)) e) = W.ret (.nx, dbE A F ns wk (stepM wt f m) (some (false, .int m.day)) (some (false, .str m.one)) (some (false, .str m.other)) (some (false, .tup [optD (f m.one), optD (f m.other)]))) := by
  have hi : imm (.tup [optD (f m.one), optD (f m.other)]) = true := by
    show (imm (optD (f m.one)) && (imm (optD (f m.other)) && true)) = true
    rw [imm_opt, imm_opt]; rfl
  have s1 : mSet [2, 5, 6] 7 (mDr (mTup (mCons (mOp gIx (mVar 2) (mVar 5)) (mCons (mOp gIx (mVar 2) (mVar 6)) mNil)))) (dbE A F ns wk f (some (false, .int m.day)) (some (false, .str m.one)) (some (false, .str m.other)) e) = W.ret (.nx, dbE A F ns wk f (some (false, .int m.day)) (some (false, .str m.one)) (some (false, .str m.other)) (some (false, .tup [optD (f m.one), optD (f m.other)]))) :=
    set_eq (dr_eq (tup_eq (cons_eq (op_eq (a := .dic (dayD ns f)) (b := .str m.one) rfl rfl (ix_day h1)) (cons_eq (op_eq (a := .dic (dayD ns f)) (b := .str m.other) rfl rfl (ix_day h2)) rfl)) (small (by show 2 ≤ 1000; decide)))) (asg_imm hi)
  refine (seq_nx s1).trans ?_
  have s2 : mDput [4, 7, 3, 5] 2 (mVar 6) (mDe (mCall 4 sem_passed [] (mCons (mOp gIx (mVar 7) (mC (.int 0))) (mCons (mOp gIx (mVar 3) (mVar 5)) (mCons (mVar 4) (mCons (mOp gIx (mVar 7) (mC (.int 1))) mNil)))))) (dbE A F ns wk f (some (false, .int m.day)) (some (false, .str m.one)) (some (false, .str m.other)) (some (false, .tup [optD (f m.one), optD (f m.other)]))) = W.ret (.nx, dbE A F ns wk (upd1 f m.other (passM (f m.one) (wt m.one) m.day (f m.other))) (some (false, .int m.day)) (some (false, .str m.one)) (some (false, .str m.other)) (some (false, .tup [optD (f m.one), optD (f m.other)]))) := by
    refine Eq.trans (dput_eq (kvs := dayD ns f) (d := optD (passM (f m.one) (wt m.one) m.day (f m.other))) (k := .str m.other) (ky := .inr m.other) rfl (de_eq (call_eq (ds := [optD (f m.one), .int (wt m.one), .int m.day, optD (f m.other)]) (cons_eq rfl (cons_eq (op_eq (a := .dic wk) (b := .str m.one) rfl rfl (ix_look (hw _ h1))) (cons_eq rfl (cons_eq rfl rfl)))) rfl (passed_eq _ _ _ _))) rfl rfl (imm_opt _) (by unfold dayD; rw [List.length_map]; exact hl)) ?_
    rw [put_day h2]
    rfl
  refine (seq_nx s2).trans ?_
  refine Eq.trans (dput_eq (kvs := dayD ns (upd1 f m.other (passM (f m.one) (wt m.one) m.day (f m.other)))) (d := optD (passM (f m.other) (wt m.other) m.day (f m.one))) (k := .str m.one) (ky := .inr m.one) rfl (de_eq (call_eq (ds := [optD (f m.other), .int (wt m.other), .int m.day, optD (f m.one)]) (cons_eq rfl (cons_eq (op_eq (a := .dic wk) (b := .str m.other) rfl rfl (ix_look (hw _ h2))) (cons_eq rfl (cons_eq rfl rfl)))) rfl (passed_eq _ _ _ _))) rfl rfl (imm_opt _) (by unfold dayD; rw [List.length_map]; exact hl)) ?_
  rw [put_day h1]
  rfl
theorem dbLoop {A F : D} {ns : List Str} {wk : List (Key × D)} {wt : Str → Int} (hl : ns.length < sizeLine) (hw : ∀ n ∈ ns, lookK wk (.inr n) = some (.int (wt n))) : ∀ (ms : List Met) (f : Str → Option Int) (a b c e : Option (Bool × D)), (∀ m ∈ ms, m.one ∈ ns ∧ m.other ∈ ns) →
    ∃ a' b' c' e', forN (pTup 3 (pCons (pName 4) (pCons (pName 5) (pCons (pName 6) pNil)))) dbBody (ms.map metD) (dbE A F ns wk f a b c e) = W.ret (.nx, dbE A F ns wk (ms.foldl (stepM wt) f) a' b' c' e')
  | [], f, a, b, c, e, _ => ⟨a, b, c, e, rfl⟩
  | m :: ms, f, a, b, c, e, h => by
    obtain ⟨h1, h2⟩ := h m List.mem_cons_self
    obtain ⟨a', b', c', e', ih⟩ := dbLoop (A := A) (F := F) hl hw ms (stepM wt f m) (some (false, .int m.day)) (some (false, .str m.one)) (some (false, .str m.other)) (some (false, .tup [optD (f m.one), optD (f m.other)])) fun z hz => h z (List.mem_cons_of_mem _ hz)
    refine ⟨a', b', c', e', ?_⟩
    rw [List.map_cons]
    show (W.bind (dbBody (dbE A F ns wk f (some (false, .int m.day)) (some (false, .str m.one)) (some (false, .str m.other)) e)) _) = _
    rw [dbBody_eq hl hw f m h1 h2 a b c e]
    exact ih
end FbL
end

section
set_option Elab.async false
set_option linter.all false
set_option maxRecDepth 100000
set_option maxHeartbeats 4000000
namespace FbL
open PySem PySem.Spec PyProof.Rows L2 Fb
def waitD (ps : List Per) : List (Key × D) := ps.map fun p => (Sum.inr p.nm, D.int p.w)
def perOf (ps : List Per) (n : Str) : Option Per := ps.find? fun p => decide (p.nm = n)
def waitOf (ps : List Per) (n : Str) : Int := ((perOf ps n).map (·.w)).getD 0
theorem perOf_mem {ps : List Per} {n : Str} (h : n ∈ ps.map (·.nm)) : ∃ p, perOf ps n = some p ∧ p ∈ ps ∧ p.nm = n := by
  obtain ⟨q, hq, e⟩ := List.mem_map.mp h
  rcases e1 : perOf ps n with _ | p
  · unfold perOf at e1
    have := List.find?_eq_none.mp e1 q hq
    exact absurd (decide_eq_true e) this
  · exact ⟨p, rfl, List.mem_of_find?_eq_some e1, of_decide_eq_true (List.find?_some (p := fun p : Per => decide (p.nm = n)) e1)⟩
theorem find_inr {α : Type} (f : α → Str) (ps : List α) (n : Str) : (ps.find? fun p => decide ((Sum.inr (f p) : Key) = Sum.inr n)) = ps.find? fun p => decide (f p = n) := by
  congr 1
  funext p
  exact decide_eq_decide.mpr ⟨fun h => Sum.inr.inj h, fun h => congrArg _ h⟩
theorem look_wait {ps : List Per} {n : Str} (h : n ∈ ps.map (·.nm)) : lookK (waitD ps) (.inr n) = some (.int (waitOf ps n)) := by
  obtain ⟨p, e, _, _⟩ := perOf_mem h
  unfold waitD
  rw [lookK_map (fun p : Per => Sum.inr p.nm) (fun p => D.int p.w), find_inr (fun p : Per => p.nm)]
  unfold waitOf
  unfold perOf at e ⊢
  rw [e]; rfl
theorem immK_wait (ps : List Per) : immK (waitD ps) = true := by
  induction ps with
  | nil => rfl
  | cons a l ih => exact ih
theorem inrs_nodup {l : List Str} (h : l.Nodup) : (l.map fun n => (Sum.inr n : Key)).Nodup := h.map _ fun a b hne z => hne (Sum.inr.inj z)
theorem for_eq {fz : List Nat} {m : Ro → W Ex (List D)} {p : D → Option (List (Nat × D))} {b : En → WS} {ρ : En} {ds : List D} (h : m (see fz ρ) = W.ret ds) : mFor fz m p b ρ = forN p b ds (frz fz ρ) := by
  show W.bind (up ρ (m (see fz ρ))) _ = _
  rw [h]; rfl
def daysM (P : Pl) (f : Str → Option Int) : Str → Option Int := (P.ms.mergeSort leM).foldl (stepM (waitOf P.ps)) f
theorem days_by_eq (P : Pl) (h : P.Ok) (hl : P.ps.length < sizeLine) (fk : List (Key × D)) (f : Str → Option Int) (hf : ∀ n, (lookK fk (.inr n)).getD .non = optD (f n)) : sem_days_by [plD P, .dic fk] = W.ret (true, .dic (dayD P.names (daysM P f))) := by
  have hn : P.names.length < sizeLine := by unfold Pl.names; rw [List.length_map]; exact hl
  have e1 : mSet [1, 0] 2 (mDc (mWalk (mDe (mProp "Plan" sem_Plan_names (mVar 0)))) [8] (pName 8) mYes (mVar 8) (mGet1 (mVar 1) (mVar 8))) [some (false, plD P), some (false, .dic fk), none, none, none, none, none, none, none, none] = W.ret (.nx, [some (false, plD P), some (false, .dic fk), some (true, .dic (dayD P.names f)), none, none, none, none, none, none, none]) := by
    refine set_eq (dc_eq (walk_eq (d := .tup (P.names.map D.str)) (de_eq (b := false) (prop_names P h.lp rfl)) rfl) (by rw [List.length_map]; exact Nat.le_of_lt hn) (dcN_new (fun _ => true) (fun n : Str => Sum.inr n) (fun n => optD (f n)) D.str P.names [] (by
      rw [List.filter_eq_self.mpr fun _ _ => rfl]
      exact inrs_nodup h.nd) fun n _ => ⟨[(8, .str n)], .str n, rfl, rfl, fun _ => ⟨rfl, rfl, ?_⟩⟩)) ?_
    · show W.ret ((lookK fk (.inr n)).getD .non) = _
      rw [hf]
    · rw [List.nil_append, List.filter_eq_self.mpr fun _ _ => rfl]
      exact asg_imm (immK_day _ _)
  have e2 : mSet [0] 3 (mDc (mWalk (mFld "Plan" "people" (mVar 0))) [9] (pName 9) mYes (mOp gIx (mVar 9) (mC (.int 0))) (mOp gIx (mVar 9) (mC (.int 1)))) [some (false, plD P), some (false, .dic fk), some (true, .dic (dayD P.names f)), none, none, none, none, none, none, none] = W.ret (.nx, dbE (plD P) (.dic fk) P.names (waitD P.ps) f none none none none) := by
    refine set_eq (dc_eq (walk_eq (d := .tup (P.ps.map perD)) rfl rfl) (by rw [List.length_map]; exact Nat.le_of_lt hl) (dcN_new (fun _ => true) (fun p : Per => Sum.inr p.nm) (fun p => D.int p.w) perD P.ps [] (by
      rw [List.filter_eq_self.mpr fun _ _ => rfl]
      have := inrs_nodup h.nd
      unfold Pl.names at this
      rw [List.map_map] at this
      exact this) fun p _ => ⟨[(9, perD p)], .str p.nm, rfl, rfl, fun _ => ⟨rfl, rfl, rfl⟩⟩)) ?_
    rw [List.nil_append, List.filter_eq_self.mpr fun _ _ => rfl]
    exact asg_imm (immK_wait _)
  have hm : ∀ m ∈ P.ms.mergeSort leM, m.one ∈ P.names ∧ m.other ∈ P.names := fun m hm => by
    have := h.met m (List.mem_mergeSort.mp hm)
    unfold metOk at this
    have z := (Bool.and_eq_true_iff.mp (Bool.and_eq_true_iff.mp this).2).2
    obtain ⟨z1, z2⟩ := Bool.and_eq_true_iff.mp z
    obtain ⟨y, hy, e⟩ := List.any_eq_true.mp z1
    obtain ⟨y', hy', e'⟩ := List.any_eq_true.mp z2
    exact ⟨eq_of_beq e ▸ hy, eq_of_beq e' ▸ hy'⟩
  obtain ⟨a, b, c, e, e3⟩ := dbLoop (A := plD P) (F := .dic fk) hn (fun n hn => look_wait (ps := P.ps) hn) (P.ms.mergeSort leM) f none none none none hm
  refine run_ret _ _ _ _ (dbE (plD P) (.dic fk) P.names (waitD P.ps) (daysM P f) a b c e) ?_
  refine (seq_nx e1).trans ((seq_nx e2).trans ((seq_nx (Eq.trans (for_eq (ds := (P.ms.mergeSort leM).map metD) (walk_eq (d := .lst ((P.ms.mergeSort leM).map metD)) (de_eq (b := true) (blt_eq (ds := [.tup (P.ms.map metD)]) rfl (sorted_mets true P.ms h.lm))) rfl)) e3)).trans ?_))
  rfl
end FbL
end

section
set_option Elab.async false
set_option linter.all false
set_option maxRecDepth 100000
set_option maxHeartbeats 4000000
namespace FbL
open PySem PySem.Spec PyProof.Rows L2 Fb
def spanD (ps : List Per) : List (Key × D) := (ps.filter fun p => p.sp.isSome).map fun p => (Sum.inr p.nm, spD p.sp)
theorem isN_sp (s : Option (Int × Int)) : isN (spD s) = !s.isSome := by rcases s with _ | ⟨a, b⟩ <;> rfl
theorem spans_eq (P : Pl) (h : P.Ok) : sem_spans_of [plD P] = W.ret (true, .dic (spanD P.ps)) := by
  refine run_ret _ _ _ _ [some (false, plD P), none] (ret_eq (dc_eq (walk_eq (d := .tup (P.ps.map perD)) rfl rfl) (by rw [List.length_map]; exact h.lp) ((dcN_new (fun p : Per => p.sp.isSome) (fun p : Per => Sum.inr p.nm) (fun p => spD p.sp) perD P.ps [] ?_ fun p _ => ⟨[(1, perD p)], .str p.nm, rfl, ?_, fun _ => ⟨rfl, rfl, rfl⟩⟩).trans rfl)))
  · have := inrs_nodup h.nd
    unfold Pl.names at this
    rw [List.map_map] at this
    exact List.Nodup.sublist (List.Sublist.map _ List.filter_sublist) this
  · show W.ret (isN (spD p.sp) != true) = _
    rw [isN_sp]
    cases p.sp.isSome <;> rfl
theorem immK_span (ps : List Per) : immK (spanD ps) = true := by
  unfold spanD
  induction ps.filter fun p => p.sp.isSome with
  | nil => rfl
  | cons a l ih =>
    show (imm (spD a.sp) && immK (l.map fun p => (Sum.inr p.nm, spD p.sp))) = true
    rw [ih]
    rcases a.sp with _ | ⟨x, y⟩ <;> rfl
theorem look_span {ps : List Per} (nd : (ps.map (·.nm)).Nodup) {p : Per} (hp : p ∈ ps) {lo hi : Int} (hs : p.sp = some (lo, hi)) : lookK (spanD ps) (.inr p.nm) = some (.tup [.int lo, .int hi]) := by
  unfold spanD
  rw [lookK_map (fun p : Per => Sum.inr p.nm) (fun p => spD p.sp), find_inr (fun p : Per => p.nm)]
  induction ps with
  | nil => cases hp
  | cons a l ih =>
    rw [List.map_cons, List.nodup_cons] at nd
    rcases List.mem_cons.mp hp with e | hm
    · subst e
      rw [List.filter_cons_of_pos (by rw [hs]; rfl), List.find?_cons, decide_eq_true rfl]
      show some (spD p.sp) = _
      rw [hs]; rfl
    · have hne : a.nm ≠ p.nm := fun e => nd.1 (e ▸ List.mem_map_of_mem hm)
      rw [List.filter_cons]
      split
      · rw [List.find?_cons, decide_eq_false hne]
        exact ih nd.2 hm
      · exact ih nd.2 hm
end FbL
end

section
set_option Elab.async false
set_option linter.all false
set_option maxRecDepth 100000
set_option maxHeartbeats 4000000
namespace FbL
open PySem PySem.Spec PyProof.Rows L2 Fb
theorem opR_eq {g : D → D → Rt} {m n : Ro → W Ex D} {ρ : Ro} {a b : D} {r : Bool × D} (hm : m ρ = W.ret a) (hn : n ρ = W.ret b) (h : g a b = W.ret r) : mOpR g m n ρ = W.ret r := by
  show W.bind (m ρ) (fun a => W.bind (n ρ) fun b => W.calm (g a b)) = _
  rw [hm]
  show W.bind (n ρ) (fun b => W.calm (g a b)) = _
  rw [hn]
  show W.calm (g a b) = _
  rw [h]; rfl
theorem lst_eq {m : Ro → W Ex (List D)} {ρ : Ro} {ds : List D} (h : m ρ = W.ret ds) (hl : ds.length ≤ sizeLine) : mLst m ρ = W.ret (true, .lst ds) := by
  show W.bind (m ρ) (fun ds => szd ds (W.ret (true, D.lst ds))) = _
  rw [h]
  show (if ds.length ≤ sizeLine then W.ret (true, D.lst ds) else W.fail) = _
  rw [if_pos hl]
theorem mul_l {a b : Int} (h : -(2 ^ 64) < a ∧ a < 2 ^ 64) : gMul (.int a) (.int b) = W.ret (.int (a * b)) := by
  show (if (-(2 ^ 64) < a ∧ a < 2 ^ 64) ∨ (-(2 ^ 64) < b ∧ b < 2 ^ 64) then W.ret (D.int (a * b)) else W.fail) = _
  rw [if_pos (.inl h)]
theorem cell_eq {ns : List Int} {i : Int} (h0 : 0 ≤ i) (h1 : i < ns.length) : ∃ x, gIxScr (.scr ns) (.int i) = W.ret (.int x) := by
  have hi : i.toNat < ns.length := by omega
  refine ⟨ns[i.toNat], ?_⟩
  have : atI ns i = some ns[i.toNat] := by
    unfold atI ixN
    rw [if_pos h0, if_pos h1]
    exact List.getElem?_eq_getElem hi
  show (W.got (atI ns i) fun j => W.ret (D.int j)) = _
  rw [this]; rfl
abbrev sdE (ns : List Int) (j c : Int) : En := [some (false, .scr ns), some (false, .int j), some (false, .int c), none]
theorem seed_key (ns : List Int) (j : Int) (h0 : 0 ≤ j) : ∃ i m, sem__law_seed0 [.scr ns, .int j] = W.ret (true, .lst [.int i, .int m]) := by
  have e1 : ∃ c, mSet [1] 2 (mOpR gAdd (mOp gMul (mC (.int 8219)) (mVar 1)) (mC (.int 127))) [some (false, .scr ns), some (false, .int j), none, none] = W.ret (.nx, sdE ns j c) :=
    ⟨8219 * j + 127, set_eq (r := (false, .int (8219 * j + 127))) (opR_eq (a := .int (8219 * j)) (b := .int 127) (op_eq (a := .int 8219) (b := .int j) rfl rfl (mul_l (by decide))) rfl rfl) (asg_imm rfl)⟩
  obtain ⟨c, e1⟩ := e1
  have e2 : ∃ c', (mIf (mTest (mOp gLt (mVar 1) (mDe (mBlt (g1 lenD) (mCons (mVar 0) mNil))))) (mSet [0, 1] 2 (mBlt (g1 absD) (mCons (mOp gIxScr (mVar 0) (mVar 1)) mNil))) (mIf (mTest (mOp gGt (mDe (mBlt (g1 lenD) (mCons (mVar 0) mNil))) (mC (.int 0)))) (mSet [2, 0, 1] 2 (mOpR gAdd (mVar 2) (mOp gMul (mOp gMod (mDe (mBlt (g1 intD) (mCons (mDe (mBlt (g1 absD) (mCons (mOp gIxScr (mVar 0) (mOp gMod (mDe (mBlt (g1 intD) (mCons (mVar 1) mNil))) (mDe (mBlt (g1 lenD) (mCons (mVar 0) mNil))))) mNil))) mNil))) (mC (.int 2147483629))) (mC (.int 46021))))) mSkip)) (sdE ns j c) = W.ret (.nx, sdE ns j c') := by
    have t1 : (mTest (mOp gLt (mVar 1) (mDe (mBlt (g1 lenD) (mCons (mVar 0) mNil))))) (ro (sdE ns j c)) = W.ret (decide (j < ns.length)) := rfl
    have t2 : (mTest (mOp gGt (mDe (mBlt (g1 lenD) (mCons (mVar 0) mNil))) (mC (.int 0)))) (ro (sdE ns j c)) = W.ret (decide ((0 : Int) < ns.length)) := rfl
    by_cases hj : j < ns.length
    · obtain ⟨x, hx⟩ := cell_eq h0 hj
      refine ⟨if x < 0 then -x else x, (if_eq true (t1.trans (by rw [decide_eq_true hj]))).trans ?_⟩
      exact set_eq (r := (false, .int (if x < 0 then -x else x))) (blt_eq (ds := [.int x]) (cons_eq (op_eq (a := .scr ns) (b := .int j) rfl rfl hx) rfl) rfl) (asg_imm rfl)
    · by_cases hn : (0 : Int) < ns.length
      · obtain ⟨x, hx⟩ := cell_eq (ns := ns) (i := j % ns.length) (Int.emod_nonneg _ (by omega)) (Int.emod_lt_of_pos _ hn)
        refine ⟨c + (if x < 0 then -x else x) % 2147483629 * 46021, (if_eq false (t1.trans (by rw [decide_eq_false hj]))).trans ((if_eq true (t2.trans (by rw [decide_eq_true hn]))).trans ?_)⟩
        exact set_eq (r := (false, .int (c + (if x < 0 then -x else x) % 2147483629 * 46021))) (opR_eq (a := .int c) (b := .int ((if x < 0 then -x else x) % 2147483629 * 46021)) rfl (op_eq (a := .int ((if x < 0 then -x else x) % 2147483629)) (b := .int 46021) (op_eq (a := .int (if x < 0 then -x else x)) (b := .int 2147483629) (de_eq (b := false) (blt_eq (ds := [.int (if x < 0 then -x else x)]) (cons_eq (de_eq (b := false) (blt_eq (ds := [.int x]) (cons_eq (op_eq (a := .scr ns) (b := .int (j % ns.length)) rfl (op_eq (a := .int j) (b := .int ns.length) rfl rfl (mod_pos hn)) hx) rfl) rfl)) rfl) rfl)) rfl (mod_pos (by decide))) rfl (mul_sm (by decide))) rfl) (asg_imm rfl)
      · exact ⟨c, (if_eq false (t1.trans (by rw [decide_eq_false hj]))).trans ((if_eq false (t2.trans (by rw [decide_eq_false hn]))).trans rfl)⟩
  obtain ⟨c', e2⟩ := e2
  have e3 : ∃ d, mSet [2] 3 (mDr (mIfE (mTest (mOp gGe (mVar 2) (mOp gPow (mC (.int 10)) (mC (.int 18))))) (mVar 2) (mC (.int 0)))) (sdE ns j c') = W.ret (.nx, [some (false, .scr ns), some (false, .int j), some (false, .int c'), some (false, .int d)]) := by
    refine ⟨if decide ((1000000000000000000 : Int) ≤ c') = true then c' else 0, set_eq (r := (false, .int (if decide ((1000000000000000000 : Int) ≤ c') = true then c' else 0))) (dr_eq ?_) (asg_imm rfl)⟩
    show (W.bind (W.ret (decide ((1000000000000000000 : Int) ≤ c'))) fun b => if b = true then W.ret (D.int c') else W.ret (D.int 0)) = _
    cases decide ((1000000000000000000 : Int) ≤ c') <;> rfl
  obtain ⟨d, e3⟩ := e3
  refine ⟨d, (c' % 2147483629 * 48271 + 39119 * j) % 2147483629 + 1, run_ret _ _ _ _ _ ((seq_nx e1).trans ((seq_nx e2).trans ((seq_nx e3).trans (ret_eq ?_))))⟩
  refine lst_eq (cons_eq (d := .int d) rfl (cons_eq (de_eq (b := false) (opR_eq (a := .int ((c' % 2147483629 * 48271 + 39119 * j) % 2147483629)) (b := .int 1) (op_eq (a := .int (c' % 2147483629 * 48271 + 39119 * j)) (b := .int 2147483629) (de_eq (b := false) (blt_eq (ds := [.int (c' % 2147483629 * 48271 + 39119 * j)]) (cons_eq (de_eq (b := false) (opR_eq (a := .int (c' % 2147483629 * 48271)) (b := .int (39119 * j)) (op_eq (a := .int (c' % 2147483629)) (b := .int 48271) (op_eq (a := .int c') (b := .int 2147483629) rfl rfl (mod_pos (by decide))) rfl (mul_sm (by decide))) (op_eq (a := .int 39119) (b := .int j) rfl rfl (mul_l (by decide))) rfl)) rfl) rfl)) rfl (mod_pos (by decide))) rfl rfl)) rfl)) (small (by show 2 ≤ 1000; decide))
theorem seed_sem (ns : List Int) (j : Int) (hl : ns.length ≤ 63) (h0 : 0 ≤ j) (h1 : j < 1000) (Q : Bool × D → Prop) (E : Ex → Prop) (q : ∀ (i m : Int), Q (true, .lst [.int i, .int m])) : sem__law_seed0 [.scr ns, .int j] Q E := by
  obtain ⟨i, m, e⟩ := seed_key ns j h0
  rw [e]
  exact q i m
end FbL
end

section
set_option Elab.async false
set_option linter.all false
set_option maxRecDepth 100000
set_option maxHeartbeats 1000000
namespace FbL
open PySem PySem.Spec PyProof.Rows L2 Fb
theorem itemsF_eq {m : Ro → W Ex (Bool × D)} {ρ : Ro} {kvs : List (Key × D)} (h : m ρ = W.ret (true, .dic kvs)) : mItemsF m ρ = W.ret (kvs.map Fb.pairD) := by
  show W.bind (m ρ) _ = _
  rw [h]; rfl
theorem lcf_eq {m : Ro → W Ex (List D)} {p : D → Option (List (Nat × D))} {vs : List Nat} {c : Ro → W Ex Bool} {e : Ro → W Ex D} {ρ : Ro} {xs ys : List D} (hm : m ρ = W.ret xs) (hl : xs.length ≤ sizeLine) (h : lcN p c e (wipeR ρ vs) xs = W.ret ys) : mLc m vs p c e ρ = W.ret (true, .lst ys) := by
  show W.bind (m ρ) (fun ds => szd ds (W.bind (lcN p c e (wipeR ρ vs) ds) fun ys => W.ret (true, D.lst ys))) = _
  rw [hm]
  show szd xs _ = _
  unfold szd
  rw [if_pos hl, h]; rfl
theorem ext_eq {fz : List Nat} {i : Nat} {m : Ro → W Ex D} {ρ : En} {ds es : List D} (h0 : ρ[i]? = some (some (true, .lst ds))) (hm : m (see fz ρ) = W.ret (.lst es)) (hi : imms es = true) (hl : ds.length + es.length ≤ sizeLine) : mExt fz i m ρ = W.ret (.nx, ρ.set i (some (true, .lst (ds ++ es)))) := by
  show (W.got (slotL ρ[i]?) fun ds => W.bind (up ρ (m (see fz ρ))) fun d => W.got (asL d) fun es => W.got (taks fz i es ρ) fun ρ' => if ds.length + es.length ≤ sizeLine then W.ret (Fl.nx, ρ'.set i (some (true, D.lst (ds ++ es)))) else W.fail) = _
  rw [h0]
  show (W.bind (up ρ (m (see fz ρ))) fun d => W.got (asL d) fun es => W.got (taks fz i es ρ) fun ρ' => if ds.length + es.length ≤ sizeLine then W.ret (Fl.nx, ρ'.set i (some (true, D.lst (ds ++ es)))) else W.fail) = _
  rw [hm]
  show (W.got (if imms es = true then some ρ else if i ∈ fz then none else some (frz fz ρ)) fun ρ' => if ds.length + es.length ≤ sizeLine then W.ret (Fl.nx, ρ'.set i (some (true, D.lst (ds ++ es)))) else W.fail) = _
  rw [if_pos hi]
  show (if ds.length + es.length ≤ sizeLine then W.ret (Fl.nx, ρ.set i (some (true, D.lst (ds ++ es)))) else W.fail) = _
  rw [if_pos hl]
theorem extF_eq {fz : List Nat} {i : Nat} {m : Ro → W Ex D} {ρ : En} {ds es : List D} (h0 : ρ[i]? = some (some (true, .lst ds))) (hm : m (see fz ρ) = W.ret (.lst es)) (hf : i ∉ fz) (hl : ds.length + es.length ≤ sizeLine) : ∃ ρ', (ρ' = ρ ∨ ρ' = frz fz ρ) ∧ mExt fz i m ρ = W.ret (.nx, ρ'.set i (some (true, .lst (ds ++ es)))) := by
  cases hi : imms es with
  | true => exact ⟨ρ, .inl rfl, ext_eq h0 hm hi hl⟩
  | false =>
    refine ⟨frz fz ρ, .inr rfl, ?_⟩
    show (W.got (slotL ρ[i]?) fun ds => W.bind (up ρ (m (see fz ρ))) fun d => W.got (asL d) fun es => W.got (taks fz i es ρ) fun ρ' => if ds.length + es.length ≤ sizeLine then W.ret (Fl.nx, ρ'.set i (some (true, D.lst (ds ++ es)))) else W.fail) = _
    rw [h0]
    show (W.bind (up ρ (m (see fz ρ))) fun d => W.got (asL d) fun es => W.got (taks fz i es ρ) fun ρ' => if ds.length + es.length ≤ sizeLine then W.ret (Fl.nx, ρ'.set i (some (true, D.lst (ds ++ es)))) else W.fail) = _
    rw [hm]
    show (W.got (if imms es = true then some ρ else if i ∈ fz then none else some (frz fz ρ)) fun ρ' => if ds.length + es.length ≤ sizeLine then W.ret (Fl.nx, ρ'.set i (some (true, D.lst (ds ++ es)))) else W.fail) = _
    rw [if_neg (by rw [hi]; exact Bool.false_ne_true), if_neg hf]
    show (if ds.length + es.length ≤ sizeLine then W.ret (Fl.nx, (frz fz ρ).set i (some (true, D.lst (ds ++ es)))) else W.fail) = _
    rw [if_pos hl]
theorem dputF_eq {fz : List Nat} {i : Nat} {mk m : Ro → W Ex D} {ρ : En} {kvs : List (Key × D)} {d k : D} {ky : Key} (h0 : ρ[i]? = some (some (true, .dic kvs))) (hm : m (see fz ρ) = W.ret d) (hk : mk (ro ρ) = W.ret k) (hy : keyOf k = some ky) (hi : imm d = false) (hf : i ∉ fz) (hl : kvs.length < sizeLine) :
    mDput fz i mk m ρ = W.ret (.nx, (frz fz ρ).set i (some (true, .dic (putD kvs ky d)))) := by
  show (W.got (slotK ρ[i]?) fun kvs => W.bind (up ρ (m (see fz ρ))) fun d => W.bind (up ρ (mk (ro ρ))) fun k => W.got (keyOf k) fun ky => W.got (tak fz i d ρ) fun ρ' => if kvs.length < sizeLine then W.ret (Fl.nx, ρ'.set i (some (true, D.dic (putD kvs ky d)))) else W.fail) = _
  rw [h0]
  show (W.bind (up ρ (m (see fz ρ))) fun d => W.bind (up ρ (mk (ro ρ))) fun k => W.got (keyOf k) fun ky => W.got (tak fz i d ρ) fun ρ' => if kvs.length < sizeLine then W.ret (Fl.nx, ρ'.set i (some (true, D.dic (putD kvs ky d)))) else W.fail) = _
  rw [hm, hk]
  show (W.got (keyOf k) fun ky => W.got (tak fz i d ρ) fun ρ' => if kvs.length < sizeLine then W.ret (Fl.nx, ρ'.set i (some (true, D.dic (putD kvs ky d)))) else W.fail) = _
  rw [hy]
  show (W.got (if imm d = true then some ρ else if i ∈ fz then none else some (frz fz ρ)) fun ρ' => if kvs.length < sizeLine then W.ret (Fl.nx, ρ'.set i (some (true, D.dic (putD kvs ky d)))) else W.fail) = _
  rw [if_neg (by rw [hi]; exact Bool.false_ne_true), if_neg hf]
  show (if kvs.length < sizeLine then W.ret (Fl.nx, (frz fz ρ).set i (some (true, D.dic (putD kvs ky d)))) else W.fail) = _
  rw [if_pos hl]
theorem put_none {ks : List (Key × D)} {k : Key} {d : D} (h : k ∉ ks.map (·.1)) : putD ks k d = ks ++ [(k, d)] := by
  have : (ks.any fun kv => decide (kv.1 = k)) = false := by
    rw [List.any_eq_false]
    intro kv hkv e
    exact h (of_decide_eq_true e ▸ List.mem_map_of_mem hkv)
  unfold putD
  rw [this]; rfl
theorem in_tups (neg : Bool) {x : Str} {l : List Str} (hx : sOk x = true) (h : ∀ y ∈ l, sOk y = true) : gIn neg (.str x) (.tup (l.map D.str)) = W.ret (.bl ((l.any fun y => y == x) != neg)) := by
  unfold gIn
  show (match seqIn (l.map D.str) (.str x) with | some t => W.ret (D.bl (t != neg)) | none => W.fail) = _
  rw [seqIn_strs hx h]
theorem star_eq {m : Ro → W Ex D} {n : Ro → W Ex (List D)} {ρ : Ro} {l ds : List D} (hm : m ρ = W.ret (.tup l)) (hn : n ρ = W.ret ds) : mStar m n ρ = W.ret (l ++ ds) := by
  show (W.bind (m ρ) fun d => W.bind (asSeq d) fun xs => W.bind (n ρ) fun ds => W.ret (xs ++ ds)) = _
  rw [hm, hn]; rfl
theorem Pl.Ok.ends {P : Pl} (h : P.Ok) {m : Met} (hm : m ∈ P.ms) : m.one ∈ P.names ∧ m.other ∈ P.names := by
  have := h.met m hm
  unfold metOk at this
  have z := (Bool.and_eq_true_iff.mp (Bool.and_eq_true_iff.mp this).2).2
  obtain ⟨z1, z2⟩ := Bool.and_eq_true_iff.mp z
  obtain ⟨y, hy, e⟩ := List.any_eq_true.mp z1
  obtain ⟨y', hy', e'⟩ := List.any_eq_true.mp z2
  exact ⟨eq_of_beq e ▸ hy, eq_of_beq e' ▸ hy'⟩
/-! ### turning days -/
def stirL (w : Int) (n : Str) : List Met → List Int
  | [] => []
  | m :: ms => (if m.one = n ∨ m.other = n then [m.day - w, m.day - w + 1] else []) ++ stirL w n ms
theorem stir_len (w : Int) (n : Str) : ∀ ms : List Met, (stirL w n ms).length ≤ 2 * ms.length
  | [] => Nat.zero_le _
  | m :: ms => by
    have := stir_len w n ms
    unfold stirL
    rw [List.length_append, List.length_cons]
    split <;> simp <;> omega
def turnL (ms : List Met) (w : Int) (n : Str) (lo hi : Int) : List Int := (lo :: stirL w n ms).filter fun d => decide (lo ≤ d) && decide (d ≤ hi)
def intsD (l : List Int) : D := .lst (l.map D.int)
/-- the slots: fixed ones, then name low high some day one other -/
def tdE (P Q : Pl) (acc : List (Key × D)) (n : Str) (lo hi : Int) (some' : List Int) (a b c : Option (Bool × D)) : En := [some (false, plD P), some (false, plD Q), some (true, .dic (waitD P.ps)), some (true, .dic acc), some (false, .str n), some (false, .int lo), some (false, .int hi), some (true, intsD some'), a, b, c, none]
def tdI : En → WS := (mIf (mTest (mOp (gIn false) (mVar 4) (mTup (mCons (mVar 9) (mCons (mVar 10) mNil))))) (mExt [8, 2, 4] 7 (mDe (mLst (mCons (mOp gSub (mVar 8) (mOp gIx (mVar 2) (mVar 4))) (mCons (mDe (mOpR gAdd (mOp gSub (mVar 8) (mOp gIx (mVar 2) (mVar 4))) (mC (.int 1)))) mNil))))) mSkip)
theorem big : 10000 ≤ sizeLine := by rw [sizeLine_eq]; decide
theorem tdI_eq (P Q : Pl) (h : P.Ok) (acc : List (Key × D)) {n : Str} (hn : n ∈ P.names) (lo hi : Int) (l : List Int) (hl : l.length ≤ 9000) (m : Met) (h1 : m.one ∈ P.names) (h2 : m.other ∈ P.names) :
    tdI (tdE P Q acc n lo hi l (some (false, .int m.day)) (some (false, .str m.one)) (some (false, .str m.other))) = W.ret (.nx, tdE P Q acc n lo hi (l ++ (if m.one = n ∨ m.other = n then [m.day - waitOf P.ps n, m.day - waitOf P.ps n + 1] else [])) (some (false, .int m.day)) (some (false, .str m.one)) (some (false, .str m.other))) := by
  have ok : ∀ x ∈ P.names, sOk x = true := fun x hx => name_strOk (h.nm x hx)
  have c : (mTest (mOp (gIn false) (mVar 4) (mTup (mCons (mVar 9) (mCons (mVar 10) mNil))))) (ro (tdE P Q acc n lo hi l (some (false, .int m.day)) (some (false, .str m.one)) (some (false, .str m.other)))) = W.ret (decide (m.one = n ∨ m.other = n)) := by
    refine test_eq _ (op_eq (a := .str n) (b := .tup ([m.one, m.other].map D.str)) rfl rfl ?_)
    rw [in_tups false (ok n hn) (by intro y hy; simp at hy; rcases hy with rfl | rfl; exact ok _ h1; exact ok _ h2), Bool.bne_false]
    have : ([m.one, m.other].any fun y => y == n) = decide (m.one = n ∨ m.other = n) := by
      show ((m.one == n) || ((m.other == n) || false)) = _
      by_cases e1 : m.one = n
      · rw [decide_eq_true (.inl e1), beq_iff_eq.mpr e1]; rfl
      · by_cases e2 : m.other = n
        · rw [decide_eq_true (.inr e2), beq_iff_eq.mpr e2]; cases (m.one == n) <;> rfl
        · rw [decide_eq_false (fun z => z.elim e1 e2), beq_eq_false_iff_ne.mpr e1, beq_eq_false_iff_ne.mpr e2]; rfl
    rw [this]
  refine (if_eq _ c).trans ?_
  by_cases e : m.one = n ∨ m.other = n
  · rw [if_pos (decide_eq_true e), if_pos e]
    have s : (mOp gSub (mVar 8) (mOp gIx (mVar 2) (mVar 4))) (see [8, 2, 4] (tdE P Q acc n lo hi l (some (false, .int m.day)) (some (false, .str m.one)) (some (false, .str m.other)))) = W.ret (.int (m.day - waitOf P.ps n)) :=
      op_eq (a := .int m.day) (b := .int (waitOf P.ps n)) rfl (op_eq (a := .dic (waitD P.ps)) (b := .str n) rfl rfl (ix_look (look_wait hn))) rfl
    refine (ext_eq (ds := l.map D.int) (es := [.int (m.day - waitOf P.ps n), .int (m.day - waitOf P.ps n + 1)]) rfl (de_eq (b := true) (lst_eq (cons_eq s (cons_eq (de_eq (b := false) (opR_eq (a := .int (m.day - waitOf P.ps n)) (b := .int 1) s rfl rfl)) rfl)) (small (by show 2 ≤ 1000; decide)))) rfl (by rw [List.length_map]; have := big; show l.length + 2 ≤ _; omega)).trans ?_
    unfold tdE intsD
    rw [List.map_append]
    rfl
  · rw [if_neg (by rw [decide_eq_false e]; exact Bool.false_ne_true), if_neg e, List.append_nil]
    rfl
theorem tdI_loop (P Q : Pl) (h : P.Ok) (acc : List (Key × D)) {n : Str} (hn : n ∈ P.names) (lo hi : Int) : ∀ (ms : List Met) (l : List Int) (a b c : Option (Bool × D)), l.length + 2 * ms.length ≤ 9000 → (∀ m ∈ ms, m.one ∈ P.names ∧ m.other ∈ P.names) →
    ∃ a' b' c', forN (pTup 3 (pCons (pName 8) (pCons (pName 9) (pCons (pName 10) pNil)))) tdI (ms.map metD) (tdE P Q acc n lo hi l a b c) = W.ret (.nx, tdE P Q acc n lo hi (l ++ stirL (waitOf P.ps n) n ms) a' b' c')
  | [], l, a, b, c, _, _ => ⟨a, b, c, by show W.ret _ = _; unfold stirL; rw [List.append_nil]⟩
  | m :: ms, l, a, b, c, hl, hm => by
    obtain ⟨h1, h2⟩ := hm m List.mem_cons_self
    rw [List.length_cons] at hl
    obtain ⟨a', b', c', ih⟩ := tdI_loop P Q h acc hn lo hi ms (l ++ (if m.one = n ∨ m.other = n then [m.day - waitOf P.ps n, m.day - waitOf P.ps n + 1] else [])) (some (false, .int m.day)) (some (false, .str m.one)) (some (false, .str m.other)) (by rw [List.length_append]; split <;> simp <;> omega) fun z hz => hm z (List.mem_cons_of_mem _ hz)
    refine ⟨a', b', c', ?_⟩
    rw [List.map_cons]
    show (W.bind (tdI (tdE P Q acc n lo hi l (some (false, .int m.day)) (some (false, .str m.one)) (some (false, .str m.other)))) _) = _
    rw [tdI_eq P Q h acc hn lo hi l (by omega) m h1 h2]
    refine Eq.trans ih ?_
    rw [List.append_assoc]
    rfl
/-- what is asked of two plans -/
structure Two (P Q : Pl) : Prop where
  p : P.Ok
  q : Q.Ok
  ps : Q.ps = P.ps
  sp : P.ps.length ≤ 1000
  sm : P.ms.length ≤ 1000
  sn : Q.ms.length ≤ 1000
theorem Two.names {P Q : Pl} (t : Two P Q) : Q.names = P.names := by unfold Pl.names; rw [t.ps]
theorem Two.symm {P Q : Pl} (t : Two P Q) : Two Q P := ⟨t.q, t.p, t.ps.symm, by rw [t.ps]; exact t.sp, t.sn, t.sm⟩
def turnD (P Q : Pl) (p : Per) : List Int := match p.sp with
  | some (lo, hi) => turnL (P.ms ++ Q.ms) p.w p.nm lo hi
  | none => []
def accD (P Q : Pl) (ps : List Per) : List (Key × D) := ps.map fun p => (Sum.inr p.nm, intsD (turnD P Q p))
abbrev tdA (P Q : Pl) (acc : List (Key × D)) (a4 a5 a6 a7 a8 a9 a10 : Option (Bool × D)) : En := [some (false, plD P), some (false, plD Q), some (true, .dic (waitD P.ps)), some (true, .dic acc), a4, a5, a6, a7, a8, a9, a10, none]
def tdB : En → WS := (mSeq (mSet [5] 7 (mLst (mCons (mVar 5) mNil))) (mSeq (mFor [0, 1] (mWalk (mTup (mStar (mFld "Plan" "meetings" (mVar 0)) (mStar (mFld "Plan" "meetings" (mVar 1)) mNil)))) (pTup 3 (pCons (pName 8) (pCons (pName 9) (pCons (pName 10) pNil)))) tdI) (mDput [8, 7, 5, 6] 3 (mVar 4) (mDe (mLc (mWalk (mVar 7)) [8] (pName 8) (mTest (mChain gLe gLe (mVar 5) (mVar 8) (mVar 6))) (mVar 8))))))
theorem waitOf_mem {ps : List Per} (nd : (ps.map (·.nm)).Nodup) {p : Per} (hp : p ∈ ps) : waitOf ps p.nm = p.w := by
  induction ps with
  | nil => cases hp
  | cons a l ih =>
    rw [List.map_cons, List.nodup_cons] at nd
    unfold waitOf perOf
    rw [List.find?_cons]
    rcases List.mem_cons.mp hp with e | hm
    · subst e
      rw [decide_eq_true rfl]; rfl
    · have hne : a.nm ≠ p.nm := fun e => nd.1 (e ▸ List.mem_map_of_mem hm)
      rw [decide_eq_false hne]
      exact ih nd.2 hm
theorem frz_ge {fz : List Nat} : ∀ (r : En) (k : Nat), (∀ i ∈ fz, i < k) → frzFrom fz k r = r
  | [], _, _ => rfl
  | none :: r, k, h => by
    show none :: frzFrom fz (k + 1) r = _
    rw [frz_ge r (k + 1) fun i hi => Nat.lt_succ_of_lt (h i hi)]
  | some (b, d) :: r, k, h => by
    have hc : fz.contains k = false := by
      rw [Bool.eq_false_iff]
      intro z
      have := h k (List.contains_iff_mem.mp z)
      omega
    show some (b && !(fz.contains k), d) :: frzFrom fz (k + 1) r = _
    rw [hc, frz_ge r (k + 1) fun i hi => Nat.lt_succ_of_lt (h i hi), Bool.not_false, Bool.and_true]
theorem frz01 (d0 d1 : D) (r : En) : frz [0, 1] (some (false, d0) :: some (false, d1) :: r) = some (false, d0) :: some (false, d1) :: r := by
  show some (false, d0) :: some (false, d1) :: frzFrom [0, 1] 2 r = _
  rw [frz_ge r 2 (by intro i hi; simp at hi; omega)]
theorem tdB_eq {P Q : Pl} (t : Two P Q) {acc : List (Key × D)} (ha : acc.length < 5000) {p : Per} (hp : p ∈ P.ps) {lo hi : Int} (hs : p.sp = some (lo, hi)) (hn : (Sum.inr p.nm : Key) ∉ acc.map (·.1)) (a7 a8 a9 a10 : Option (Bool × D)) :
    ∃ b7 b8 b9 b10, tdB (tdA P Q acc (some (false, .str p.nm)) (some (false, .int lo)) (some (false, .int hi)) a7 a8 a9 a10) = W.ret (.nx, tdA P Q (acc ++ [(Sum.inr p.nm, intsD (turnD P Q p))]) (some (false, .str p.nm)) (some (false, .int lo)) (some (false, .int hi)) b7 b8 b9 b10) := by
  have hpn : p.nm ∈ P.names := List.mem_map_of_mem hp
  have e1 : mSet [5] 7 (mLst (mCons (mVar 5) mNil)) (tdA P Q acc (some (false, .str p.nm)) (some (false, .int lo)) (some (false, .int hi)) a7 a8 a9 a10) = W.ret (.nx, tdE P Q acc p.nm lo hi [lo] a8 a9 a10) := by
    refine set_eq (r := (true, .lst [.int lo])) (lst_eq (ds := [.int lo]) ?_ (small (by show 1 ≤ 1000; decide))) ((asg_imm (r := (true, .lst [.int lo])) rfl).trans rfl)
    rfl
  obtain ⟨b8, b9, b10, e2⟩ := tdI_loop P Q t.p acc hpn lo hi (P.ms ++ Q.ms) [lo] a8 a9 a10 (by
    have h1 := t.sm
    have h2 := t.sn
    rw [List.length_append]
    show 1 + _ ≤ _
    omega) fun m hm => by
      rcases List.mem_append.mp hm with z | z
      · exact t.p.ends z
      · have := t.q.ends z
        rw [t.names] at this
        exact this
  have e3 : (mFor [0, 1] (mWalk (mTup (mStar (mFld "Plan" "meetings" (mVar 0)) (mStar (mFld "Plan" "meetings" (mVar 1)) mNil)))) (pTup 3 (pCons (pName 8) (pCons (pName 9) (pCons (pName 10) pNil)))) tdI) (tdE P Q acc p.nm lo hi [lo] a8 a9 a10) = W.ret (.nx, tdE P Q acc p.nm lo hi ([lo] ++ stirL (waitOf P.ps p.nm) p.nm (P.ms ++ Q.ms)) b8 b9 b10) := by
    refine Eq.trans (for_eq (ds := (P.ms ++ Q.ms).map metD) (walk_eq (d := .tup ((P.ms ++ Q.ms).map metD)) (tup_eq ?_ ?_) rfl)) (Eq.trans (by unfold tdE; rw [frz01]) e2)
    · rw [List.map_append]
      refine star_eq (l := P.ms.map metD) rfl ?_
      have := star_eq (m := mFld "Plan" "meetings" (mVar 1)) (n := mNil) (ρ := see [0, 1] (tdE P Q acc p.nm lo hi [lo] a8 a9 a10)) (l := Q.ms.map metD) (ds := []) rfl rfl
      rw [List.append_nil] at this
      exact this
    · rw [List.length_map, List.length_append]
      have h1 := t.sm
      have h2 := t.sn
      have := big
      omega
  rw [waitOf_mem t.p.nd hp] at e3
  refine ⟨some (false, intsD ([lo] ++ stirL p.w p.nm (P.ms ++ Q.ms))), b8.map fun x => (false, x.2), b9, b10, (seq_nx e1).trans ((seq_nx e3).trans ?_)⟩
  have hlen : ([lo] ++ stirL p.w p.nm (P.ms ++ Q.ms)).length ≤ sizeLine := by
    have h0 := stir_len p.w p.nm (P.ms ++ Q.ms)
    have h1 := t.sm
    have h2 := t.sn
    have := big
    rw [List.length_append] at h0 ⊢
    show 1 + _ ≤ _
    omega
  refine (dputF_eq (kvs := acc) (d := intsD (turnD P Q p)) (k := .str p.nm) (ky := .inr p.nm) rfl (de_eq (b := true) (lcf_eq (xs := ([lo] ++ stirL p.w p.nm (P.ms ++ Q.ms)).map D.int) rfl (by rw [List.length_map]; exact hlen) ?_)) rfl rfl rfl (by decide) (by have := big; omega)).trans ?_
  · rw [lcN_map (fun d => match d with | .int d => decide (lo ≤ d) && decide (d ≤ hi) | _ => false) id fun d hd => by
      obtain ⟨i, _, rfl⟩ := List.mem_map.mp hd
      refine ⟨[(8, .int i)], rfl, ?_, fun _ => ?_⟩
      · have x5 : mVar 5 (setR (wipeR (see [8, 7, 5, 6] (tdE P Q acc p.nm lo hi ([lo] ++ stirL p.w p.nm (P.ms ++ Q.ms)) b8 b9 b10)) [8]) [(8, .int i)]) = W.ret (.int lo) := by rcases b8 with _ | ⟨_ | _, _⟩ <;> rcases b9 with _ | ⟨_ | _, _⟩ <;> rcases b10 with _ | ⟨_ | _, _⟩ <;> rfl
        have x6 : mVar 6 (setR (wipeR (see [8, 7, 5, 6] (tdE P Q acc p.nm lo hi ([lo] ++ stirL p.w p.nm (P.ms ++ Q.ms)) b8 b9 b10)) [8]) [(8, .int i)]) = W.ret (.int hi) := by rcases b8 with _ | ⟨_ | _, _⟩ <;> rcases b9 with _ | ⟨_ | _, _⟩ <;> rcases b10 with _ | ⟨_ | _, _⟩ <;> rfl
        have x8 : mVar 8 (setR (wipeR (see [8, 7, 5, 6] (tdE P Q acc p.nm lo hi ([lo] ++ stirL p.w p.nm (P.ms ++ Q.ms)) b8 b9 b10)) [8]) [(8, .int i)]) = W.ret (.int i) := by rcases b8 with _ | ⟨_ | _, _⟩ <;> rcases b9 with _ | ⟨_ | _, _⟩ <;> rcases b10 with _ | ⟨_ | _, _⟩ <;> rfl
        show (W.bind (W.bind (mVar 5 _) fun a => W.bind (mVar 8 _) fun b => W.bind (W.calm (gLe a b)) fun t => W.bind (asB t) fun k => if k = true then W.bind (mVar 6 _) fun c => W.calm (gLe b c) else W.ret (.bl false)) asB) = W.ret (decide (lo ≤ i) && decide (i ≤ hi))
        rw [x5, x6, x8]
        show (W.bind (if decide (lo ≤ i) = true then W.ret (D.bl (decide (i ≤ hi))) else W.ret (D.bl false)) asB) = W.ret (decide (lo ≤ i) && decide (i ≤ hi))
        cases decide (lo ≤ i) <;> rfl
      · rcases b8 with _ | ⟨_ | _, _⟩ <;> rcases b9 with _ | ⟨_ | _, _⟩ <;> rcases b10 with _ | ⟨_ | _, _⟩ <;> rfl]
    rw [List.map_id]
    unfold turnD turnL
    rw [hs]
    show W.ret (List.filter _ (([lo] ++ stirL p.w p.nm (P.ms ++ Q.ms)).map D.int)) = W.ret ((([lo] ++ stirL p.w p.nm (P.ms ++ Q.ms)).filter fun d => decide (lo ≤ d) && decide (d ≤ hi)).map D.int)
    rw [List.filter_map]
    rfl
  · rw [put_none hn]
    rcases b8 with _ | ⟨_ | _, _⟩ <;> rcases b9 with _ | ⟨_ | _, _⟩ <;> rcases b10 with _ | ⟨_ | _, _⟩ <;> rfl
theorem td_loop {P Q : Pl} (t : Two P Q) : ∀ (ps : List Per) (done : List Per), (∀ p ∈ ps, p ∈ P.ps ∧ p.sp.isSome = true) → ((done ++ ps).map (·.nm)).Nodup → done.length + ps.length ≤ 1000 → ∀ (a4 a5 a6 a7 a8 a9 a10 : Option (Bool × D)),
    ∃ b4 b5 b6 b7 b8 b9 b10, forN (pTup 2 (pCons (pName 4) (pCons (pTup 2 (pCons (pName 5) (pCons (pName 6) pNil))) pNil))) tdB (ps.map fun p => D.tup [.str p.nm, spD p.sp]) (tdA P Q (accD P Q done) a4 a5 a6 a7 a8 a9 a10) = W.ret (.nx, tdA P Q (accD P Q (done ++ ps)) b4 b5 b6 b7 b8 b9 b10)
  | [], done, _, _, _, a4, a5, a6, a7, a8, a9, a10 => ⟨a4, a5, a6, a7, a8, a9, a10, by rw [List.append_nil]; rfl⟩
  | p :: ps, done, hp, nd, hl, a4, a5, a6, a7, a8, a9, a10 => by
    obtain ⟨h1, h2⟩ := hp p List.mem_cons_self
    obtain ⟨⟨lo, hi⟩, hs⟩ := Option.isSome_iff_exists.mp h2
    rw [List.length_cons] at hl
    have hn : (Sum.inr p.nm : Key) ∉ (accD P Q done).map (·.1) := fun z => by
      obtain ⟨kv, hkv, e⟩ := List.mem_map.mp z
      obtain ⟨q, hq, rfl⟩ := List.mem_map.mp hkv
      rw [List.map_append] at nd
      exact (List.nodup_append.mp nd).2.2 _ (List.mem_map_of_mem hq) _ List.mem_cons_self (Sum.inr.inj e)
    obtain ⟨b7, b8, b9, b10, e⟩ := tdB_eq t (acc := accD P Q done) (by unfold accD; rw [List.length_map]; omega) h1 hs hn a7 a8 a9 a10
    have ea : done ++ p :: ps = (done ++ [p]) ++ ps := by rw [List.append_assoc]; rfl
    obtain ⟨c4, c5, c6, c7, c8, c9, c10, ih⟩ := td_loop t ps (done ++ [p]) (fun z hz => hp z (List.mem_cons_of_mem _ hz)) (ea ▸ nd) (by rw [List.length_append]; show done.length + 1 + _ ≤ _; omega) (some (false, .str p.nm)) (some (false, .int lo)) (some (false, .int hi)) b7 b8 b9 b10
    refine ⟨c4, c5, c6, c7, c8, c9, c10, ?_⟩
    rw [List.map_cons, hs]
    show (W.bind (tdB (tdA P Q (accD P Q done) (some (false, .str p.nm)) (some (false, .int lo)) (some (false, .int hi)) a7 a8 a9 a10)) _) = _
    rw [e, ea]
    have e4 : accD P Q done ++ [(Sum.inr p.nm, intsD (turnD P Q p))] = accD P Q (done ++ [p]) := by unfold accD; rw [List.map_append]; rfl
    rw [e4]
    exact ih
def firstsOf (P : Pl) : List Per := P.ps.filter fun p => p.sp.isSome
theorem turning_eq {P Q : Pl} (t : Two P Q) : sem_turning_days [plD P, plD Q] = W.ret (true, .dic (accD P Q (firstsOf P))) := by
  have c : mLc = mLc := rfl
  have e1 : (mPar [(2, [0], (mDc (mWalk (mFld "Plan" "people" (mVar 0))) [11] (pName 11) mYes (mOp gIx (mVar 11) (mC (.int 0))) (mOp gIx (mVar 11) (mC (.int 1))))), (3, [], mDic0)]) [some (false, plD P), some (false, plD Q), none, none, none, none, none, none, none, none, none, none] = W.ret (.nx, tdA P Q [] none none none none none none none) := by
    have c : (mDc (mWalk (mFld "Plan" "people" (mVar 0))) [11] (pName 11) mYes (mOp gIx (mVar 11) (mC (.int 0))) (mOp gIx (mVar 11) (mC (.int 1)))) (see [0] [some (false, plD P), some (false, plD Q), none, none, none, none, none, none, none, none, none, none]) = W.ret (true, .dic (waitD P.ps)) := by
      refine dc_eq (walk_eq (d := .tup (P.ps.map perD)) rfl rfl) (by rw [List.length_map]; exact t.p.lp) ((dcN_new (fun _ => true) (fun p : Per => Sum.inr p.nm) (fun p => D.int p.w) perD P.ps [] (by
        rw [List.filter_eq_self.mpr fun _ _ => rfl]
        have := inrs_nodup t.p.nd
        unfold Pl.names at this
        rw [List.map_map] at this
        exact this) fun p _ => ⟨[(11, perD p)], .str p.nm, rfl, rfl, fun _ => ⟨rfl, rfl, rfl⟩⟩).trans ?_)
      rw [List.nil_append, List.filter_eq_self.mpr fun _ _ => rfl]
      rfl
    show W.bind (W.bind (up _ ((mDc (mWalk (mFld "Plan" "people" (mVar 0))) [11] (pName 11) mYes (mOp gIx (mVar 11) (mC (.int 0))) (mOp gIx (mVar 11) (mC (.int 1)))) (see [0] [some (false, plD P), some (false, plD Q), none, none, none, none, none, none, none, none, none, none]))) fun x => parN [some (false, plD P), some (false, plD Q), none, none, none, none, none, none, none, none, none, none] [(3, [], mDic0)] [2] (asg [0] 2 x [some (false, plD P), some (false, plD Q), none, none, none, none, none, none, none, none, none, none])) (fun ρ' => W.ret (Fl.nx, ρ')) = _
    rw [c]
    show W.ret (Fl.nx, asg [] 3 (true, .dic []) (asg [0] 2 (true, .dic (waitD P.ps)) [some (false, plD P), some (false, plD Q), none, none, none, none, none, none, none, none, none, none])) = _
    rw [asg_imm (r := (true, .dic (waitD P.ps))) (immK_wait _), asg_imm (r := (true, .dic [])) rfl]
    rfl
  have nd : ((([] : List Per) ++ firstsOf P).map (·.nm)).Nodup := by
    rw [List.nil_append]
    exact List.Nodup.sublist (List.Sublist.map _ List.filter_sublist) t.p.nd
  obtain ⟨b4, b5, b6, b7, b8, b9, b10, e2⟩ := td_loop t (firstsOf P) [] (fun p hp => List.mem_filter.mp hp) nd (by rw [List.length_nil]; have := List.length_filter_le (fun p : Per => p.sp.isSome) P.ps; have := t.sp; show 0 + (P.ps.filter _).length ≤ _; omega) none none none none none none none
  rw [List.nil_append] at e2
  have e3 : (mFor [0] (mItemsF (mCall 1 sem_spans_of [] (mCons (mVar 0) mNil))) (pTup 2 (pCons (pName 4) (pCons (pTup 2 (pCons (pName 5) (pCons (pName 6) pNil))) pNil))) tdB) (tdA P Q [] none none none none none none none) = W.ret (.nx, tdA P Q (accD P Q (firstsOf P)) b4 b5 b6 b7 b8 b9 b10) := by
    refine Eq.trans (for_eq (ds := (firstsOf P).map fun p => D.tup [.str p.nm, spD p.sp]) ?_) e2
    have c2 : (mCall 1 sem_spans_of [] (mCons (mVar 0) mNil)) (see [0] (tdA P Q [] none none none none none none none)) = W.ret (true, .dic (spanD P.ps)) := call_eq (ds := [plD P]) rfl rfl (spans_eq P t.p)
    rw [itemsF_eq c2]
    unfold spanD firstsOf
    rw [List.map_map]
    rfl
  refine run_ret _ _ _ _ _ ((seq_nx e1).trans ((seq_nx e3).trans rfl))
end FbL
end

section
set_option Elab.async false
set_option linter.all false
set_option maxRecDepth 100000
set_option maxHeartbeats 1000000
namespace FbL
open PySem PySem.Spec PyProof.Rows L2 Fb
def oneF (n : Str) (d : Int) : Str → Option Int := fun m => if m = n then some d else none
def oneD (P Q : Pl) (n : Str) (d : Int) : D := .tup [.str n, .int d, .dic (dayD P.names (daysM P (oneF n d))), .dic (dayD Q.names (daysM Q (oneF n d)))]
theorem dic1_eq {mk m : Ro → W Ex D} {ρ : Ro} {n : Str} {d : D} (hk : mk ρ = W.ret (.str n)) (hm : m ρ = W.ret d) : mDic1 mk m ρ = W.ret (true, .dic [(.inr n, d)]) := by
  show (W.bind (mk ρ) fun kd => W.got (keyOf kd) fun ky => W.bind (m ρ) fun d => W.ret (true, D.dic [(ky, d)])) = _
  rw [hk, hm]; rfl
theorem look_one (n : Str) (d : Int) (m : Str) : (lookK [((Sum.inr n : Key), D.int d)] (.inr m)).getD .non = optD (oneF n d m) := by
  show (if (Sum.inr n : Key) = Sum.inr m then some (D.int d) else none).getD .non = optD (if m = n then some d else none)
  by_cases e : m = n
  · rw [if_pos (by rw [e]), if_pos e]; rfl
  · rw [if_neg fun z => e (Sum.inr.inj z).symm, if_neg e]; rfl
def udE (P Q : Pl) (acc : List D) (a b : Option (Bool × D)) : En := [some (false, plD P), some (false, plD Q), some (true, .lst acc), a, b, none]
def udB : En → WS := (mExt [3, 4, 0, 1] 2 (mDe (mLc (mWalk (mVar 4)) [5] (pName 5) mYes (mTup (mCons (mVar 3) (mCons (mVar 5) (mCons (mDe (mCall 2 sem_days_by [] (mCons (mVar 0) (mCons (mDe (mDic1 (mVar 3) (mVar 5))) mNil)))) (mCons (mDe (mCall 2 sem_days_by [] (mCons (mVar 1) (mCons (mDe (mDic1 (mVar 3) (mVar 5))) mNil)))) mNil))))))))
theorem udB_eq {P Q : Pl} (t : Two P Q) (acc : List D) (n : Str) (ds : List Int) (hl : acc.length + ds.length ≤ sizeLine) :
    udB (udE P Q acc (some (false, .str n)) (some (false, intsD ds))) = W.ret (.nx, udE P Q (acc ++ ds.map (oneD P Q n)) (some (false, .str n)) (some (false, intsD ds))) := by
  have hp : P.ps.length < sizeLine := Nat.lt_of_le_of_lt t.sp (Nat.lt_of_lt_of_le (by decide) big)
  have hq : Q.ps.length < sizeLine := by rw [t.ps]; exact hp
  obtain ⟨ρ', hρ, e⟩ := extF_eq (fz := [3, 4, 0, 1]) (i := 2) (ρ := udE P Q acc (some (false, .str n)) (some (false, intsD ds))) (ds := acc) (es := ds.map (oneD P Q n)) (m := (mDe (mLc (mWalk (mVar 4)) [5] (pName 5) mYes (mTup (mCons (mVar 3) (mCons (mVar 5) (mCons (mDe (mCall 2 sem_days_by [] (mCons (mVar 0) (mCons (mDe (mDic1 (mVar 3) (mVar 5))) mNil)))) (mCons (mDe (mCall 2 sem_days_by [] (mCons (mVar 1) (mCons (mDe (mDic1 (mVar 3) (mVar 5))) mNil)))) mNil)))))))) rfl
    (de_eq (b := true) (lc_eq (xs := ds.map D.int) rfl (by rw [List.length_map]; omega) (by
      rw [lcN_all (fun z => match z with | .int d => oneD P Q n d | z => z) fun z hz => by
        obtain ⟨d, _, rfl⟩ := List.mem_map.mp hz
        refine ⟨[(5, .int d)], rfl, tup_eq (ds := [.str n, .int d, .dic (dayD P.names (daysM P (oneF n d))), .dic (dayD Q.names (daysM Q (oneF n d)))]) (cons_eq rfl (cons_eq rfl (cons_eq (de_eq (b := true) (call_eq (ds := [plD P, .dic [(.inr n, .int d)]]) (cons_eq rfl (cons_eq (de_eq (b := true) (dic1_eq rfl rfl)) rfl)) rfl (days_by_eq P t.p hp _ _ (look_one n d)))) (cons_eq (de_eq (b := true) (call_eq (ds := [plD Q, .dic [(.inr n, .int d)]]) (cons_eq rfl (cons_eq (de_eq (b := true) (dic1_eq rfl rfl)) rfl)) rfl (days_by_eq Q t.q hq _ _ (look_one n d)))) rfl)))) (small (by show 4 ≤ 1000; decide))⟩]
      rw [List.map_map]; rfl))) (by decide) (by rw [List.length_map]; exact hl)
  refine Eq.trans e ?_
  rcases hρ with rfl | rfl <;> rfl
theorem ud_loop {P Q : Pl} (t : Two P Q) : ∀ (ps : List Per) (acc : List D) (a b : Option (Bool × D)), acc.length + (ps.flatMap fun p => turnD P Q p).length ≤ sizeLine →
    ∃ a' b', forN (pTup 2 (pCons (pName 3) (pCons (pName 4) pNil))) udB (ps.map fun p => D.tup [.str p.nm, intsD (turnD P Q p)]) (udE P Q acc a b) = W.ret (.nx, udE P Q (acc ++ ps.flatMap fun p => (turnD P Q p).map (oneD P Q p.nm)) a' b')
  | [], acc, a, b, _ => ⟨a, b, by rw [List.flatMap_nil, List.append_nil]; rfl⟩
  | p :: ps, acc, a, b, hl => by
    rw [List.flatMap_cons, List.length_append] at hl
    obtain ⟨a', b', ih⟩ := ud_loop t ps (acc ++ (turnD P Q p).map (oneD P Q p.nm)) (some (false, .str p.nm)) (some (false, intsD (turnD P Q p))) (by rw [List.length_append, List.length_map]; omega)
    refine ⟨a', b', ?_⟩
    rw [List.map_cons]
    show (W.bind (udB (udE P Q acc (some (false, .str p.nm)) (some (false, intsD (turnD P Q p))))) _) = _
    rw [udB_eq t acc p.nm (turnD P Q p) (by omega), List.flatMap_cons, ← List.append_assoc]
    exact ih
def worldsL (P Q : Pl) : List (Str × Int) := (firstsOf P).flatMap fun p => (turnD P Q p).map fun d => (p.nm, d)
theorem worldsL_len (P Q : Pl) : ((firstsOf P).flatMap fun p => turnD P Q p).length = (worldsL P Q).length := by
  unfold worldsL
  induction firstsOf P with
  | nil => rfl
  | cons p ps ih => rw [List.flatMap_cons, List.flatMap_cons, List.length_append, List.length_append, List.length_map, ih]
theorem worldsL_map (P Q : Pl) : ((firstsOf P).flatMap fun p => (turnD P Q p).map (oneD P Q p.nm)) = (worldsL P Q).map fun w => oneD P Q w.1 w.2 := by
  unfold worldsL
  induction firstsOf P with
  | nil => rfl
  | cons p ps ih =>
    rw [List.flatMap_cons, List.flatMap_cons, List.map_append, ih, List.map_map]
    rfl
theorem unlike_eq {P Q : Pl} (t : Two P Q) (hz : (worldsL P Q).length ≤ sizeLine) : sem_unlike_days [plD P, plD Q] = W.ret (true, .lst ((worldsL P Q).map fun w => oneD P Q w.1 w.2)) := by
  have e1 : mSet [] 2 (mLst mNil) [some (false, plD P), some (false, plD Q), none, none, none, none] = W.ret (.nx, udE P Q [] none none) := set_eq (r := (true, .lst [])) rfl (asg_imm rfl)
  obtain ⟨a, b, e2⟩ := ud_loop t (firstsOf P) [] none none (by rw [worldsL_len]; show 0 + _ ≤ _; omega)
  rw [List.nil_append, worldsL_map] at e2
  have c2 : (mCall 2 sem_turning_days [] (mCons (mVar 0) (mCons (mVar 1) mNil))) (see [0, 1] (udE P Q [] none none)) = W.ret (true, .dic (accD P Q (firstsOf P))) := call_eq (ds := [plD P, plD Q]) rfl rfl (turning_eq t)
  have e3 : (mFor [0, 1] (mItemsF (mCall 2 sem_turning_days [] (mCons (mVar 0) (mCons (mVar 1) mNil)))) (pTup 2 (pCons (pName 3) (pCons (pName 4) pNil))) udB) (udE P Q [] none none) = W.ret (.nx, udE P Q ((worldsL P Q).map fun w => oneD P Q w.1 w.2) a b) := by
    refine Eq.trans (for_eq (ds := (firstsOf P).map fun p => D.tup [.str p.nm, intsD (turnD P Q p)]) ?_) e2
    rw [itemsF_eq c2]
    unfold accD
    rw [List.map_map]
    rfl
  exact run_ret _ _ _ _ _ ((seq_nx e1).trans ((seq_nx e3).trans rfl))
/-! ### sooner -/
theorem run_nx (n : Nat) (b : En → WS) (ds : List D) (ρ : En) (h : b (initEn n ds) = W.ret (.nx, ρ)) : runBody n b ds = W.ret (false, .non) := by
  unfold runBody; rw [h]; rfl
def spP : Option (Int × Int) → PyData
  | none => .none
  | some (a, b) => .tuple [.int a, .int b]
def perP (p : Per) : PyData := .tuple [.str p.nm, .int p.w, .int p.s, spP p.sp]
theorem py_per (p : Per) : (perD p).py = some (perP p) := by
  rcases p with ⟨nm, w, s, sp⟩
  rcases sp with _ | ⟨a, b⟩ <;> rfl
theorem int_eqv (i : Int) : PyData.eqv (.int i) (.int i) = true := by show (i == i) = true; exact beq_self_eq_true _
theorem str_eqv (i : Str) : PyData.eqv (.str i) (.str i) = true := by show (i == i) = true; exact beq_self_eq_true _
theorem per_eqv (p : Per) : PyData.eqv (perP p) (perP p) = true := by
  have hs : PyData.eqv (spP p.sp) (spP p.sp) = true := by
    rcases p.sp with _ | ⟨a, b⟩
    · rfl
    · show (PyData.eqv (.int a) (.int a) && (PyData.eqv (.int b) (.int b) && true)) = true
      rw [int_eqv, int_eqv]; rfl
  show (PyData.eqv (.str p.nm) (.str p.nm) && (PyData.eqv (.int p.w) (.int p.w) && (PyData.eqv (.int p.s) (.int p.s) && (PyData.eqv (spP p.sp) (spP p.sp) && true)))) = true
  rw [str_eqv, int_eqv, int_eqv, hs]; rfl
theorem pers_eqv : ∀ l : List Per, PyData.eqvAll (l.map perP) (l.map perP) = true
  | [] => rfl
  | p :: l => by
    show (PyData.eqv (perP p) (perP p) && PyData.eqvAll (l.map perP) (l.map perP)) = true
    rw [per_eqv, pers_eqv l]; rfl
theorem same_people (P : Pl) (h : P.Ok) : gEq true (.tup (P.ps.map perD)) (.tup (P.ps.map perD)) = W.ret (.bl false) := by
  have hs : ∀ p ∈ P.ps.map perP, p.canLay0 = true ∧ p.depth ≤ 60 := fun q hq => by
    obtain ⟨p, hp, rfl⟩ := List.mem_map.mp hq
    have hn : sOk p.nm = true := name_strOk (h.nm p.nm (List.mem_map_of_mem hp))
    rcases p with ⟨nm, w, s, sp⟩
    rcases sp with _ | ⟨a, b⟩
    · exact ⟨by show (sOk nm && true) = true; rw [hn]; rfl, by show 1 ≤ 60; decide⟩
    · exact ⟨by show (sOk nm && true) = true; rw [hn]; rfl, by show 2 ≤ 60; decide⟩
  have ep : (D.tup (P.ps.map perD)).py = some (.tuple (P.ps.map perP)) := by
    show (D.pys (P.ps.map perD)).map PyData.tuple = _
    rw [pys_map perD perP py_per]; rfl
  have : D.deq (.tup (P.ps.map perD)) (.tup (P.ps.map perD)) = some true := by
    unfold D.deq
    rw [ep]
    show (if SeqAt.shaped (.tuple (P.ps.map perP)) = true ∧ SeqAt.shaped (.tuple (P.ps.map perP)) = true then some (PyData.eqvAll (P.ps.map perP) (P.ps.map perP)) else none) = _
    rw [if_pos ⟨(shaped_list hs).2, (shaped_list hs).2⟩, pers_eqv]
  unfold gEq
  rw [this]; rfl
theorem need_same_eq {P Q : Pl} (t : Two P Q) : sem_need_same [plD P, plD Q] = W.ret (false, .non) := by
  refine run_nx _ _ _ [some (false, plD P), some (false, plD Q)] ((if_eq false (test_eq false (op_eq (a := .tup (P.ps.map perD)) (b := .tup (Q.ps.map perD)) rfl rfl ?_))).trans rfl)
  rw [t.ps]
  exact same_people P t.p
def earlier : Option Int → Option Int → Bool
  | none, _ => false
  | some _, none => true
  | some x, some y => decide (x < y)
theorem is_earlier_eq (a b : Option Int) : sem_is_earlier [optD a, optD b] = W.ret (false, .bl (earlier a b)) := by
  cases a with
  | none => rfl
  | some x => cases b <;> rfl
def soE (P Q : Pl) (n : Str) (d : Int) (a : Option (Bool × D)) : En := [some (false, plD P), some (false, plD Q), some (false, .str n), some (false, .int d), some (false, .dic (dayD P.names (daysM P (oneF n d)))), some (false, .dic (dayD Q.names (daysM Q (oneF n d)))), a]
def soI : En → WS := (mIf (mTest (mDe (mCall 2 sem_is_earlier [] (mCons (mOp gIx (mVar 4) (mVar 6)) (mCons (mOp gIx (mVar 5) (mVar 6)) mNil))))) (mRet (mDr (mTup (mCons (mTup (mCons (mTup (mCons (mVar 2) (mCons (mVar 3) mNil))) mNil)) (mCons (mVar 6) mNil))))) mSkip)
def hitD (n : Str) (d : Int) (x : Str) : D := .tup [.tup [.tup [.str n, .int d]], .str x]
def findE (P Q : Pl) (n : Str) (d : Int) (xs : List Str) : Option Str := xs.find? fun x => earlier (daysM P (oneF n d) x) (daysM Q (oneF n d) x)
theorem so_inner {P Q : Pl} (t : Two P Q) (n : Str) (d : Int) : ∀ (xs : List Str) (a : Option (Bool × D)), (∀ x ∈ xs, x ∈ P.names) →
    ∃ a', forN (pName 6) soI (xs.map D.str) (soE P Q n d a) = W.ret ((match findE P Q n d xs with | some x => Fl.rt (false, hitD n d x) | none => Fl.nx), soE P Q n d a')
  | [], a, _ => ⟨a, rfl⟩
  | x :: xs, a, h => by
    have hx := h x List.mem_cons_self
    have hx' : x ∈ Q.names := by rw [t.names]; exact hx
    have c : (mTest (mDe (mCall 2 sem_is_earlier [] (mCons (mOp gIx (mVar 4) (mVar 6)) (mCons (mOp gIx (mVar 5) (mVar 6)) mNil))))) (ro (soE P Q n d (some (false, .str x)))) = W.ret (earlier (daysM P (oneF n d) x) (daysM Q (oneF n d) x)) :=
      test_eq _ (de_eq (b := false) (call_eq (ds := [optD (daysM P (oneF n d) x), optD (daysM Q (oneF n d) x)]) (cons_eq (op_eq (a := .dic (dayD P.names (daysM P (oneF n d)))) (b := .str x) rfl rfl (ix_day hx)) (cons_eq (op_eq (a := .dic (dayD Q.names (daysM Q (oneF n d)))) (b := .str x) rfl rfl (ix_day hx')) rfl)) rfl (is_earlier_eq _ _)))
    have fe : findE P Q n d (x :: xs) = if earlier (daysM P (oneF n d) x) (daysM Q (oneF n d) x) = true then some x else findE P Q n d xs := by
      unfold findE
      rw [List.find?_cons]
      cases earlier (daysM P (oneF n d) x) (daysM Q (oneF n d) x) <;> rfl
    rw [List.map_cons, fe]
    cases he : earlier (daysM P (oneF n d) x) (daysM Q (oneF n d) x) with
    | true =>
      rw [he] at c
      refine ⟨some (false, .str x), ?_⟩
      show (W.bind (soI (soE P Q n d (some (false, .str x)))) _) = _
      have e : soI (soE P Q n d (some (false, .str x))) = W.ret (.rt (false, hitD n d x), soE P Q n d (some (false, .str x))) := (if_eq true c).trans (ret_eq rfl)
      rw [e, if_pos rfl]; rfl
    | false =>
      rw [he] at c
      obtain ⟨a', ih⟩ := so_inner t n d xs (some (false, .str x)) fun z hz => h z (List.mem_cons_of_mem _ hz)
      refine ⟨a', ?_⟩
      show (W.bind (soI (soE P Q n d (some (false, .str x)))) _) = _
      have e : soI (soE P Q n d (some (false, .str x))) = W.ret (.nx, soE P Q n d (some (false, .str x))) := (if_eq false c).trans rfl
      rw [e, if_neg Bool.false_ne_true]
      exact ih
def soonL (P Q : Pl) : List (Str × Int) → Option (Str × Int × Str)
  | [] => none
  | (n, d) :: r => match findE P Q n d P.names with
    | some x => some (n, d, x)
    | none => soonL P Q r
def soonD : Option (Str × Int × Str) → D
  | some (n, d, x) => hitD n d x
  | none => .non
def soA (P Q : Pl) (a2 a3 a4 a5 a6 : Option (Bool × D)) : En := [some (false, plD P), some (false, plD Q), a2, a3, a4, a5, a6]
def soB : En → WS := (mFor [0] (mWalk (mDe (mProp "Plan" sem_Plan_names (mVar 0)))) (pName 6) soI)
theorem frz0 (d0 : D) (r : En) : frz [0] (some (false, d0) :: r) = some (false, d0) :: r := by
  show some (false, d0) :: frzFrom [0] 1 r = _
  rw [frz_ge r 1 (by intro i hi; simp at hi; omega)]
theorem so_loop {P Q : Pl} (t : Two P Q) : ∀ (ws : List (Str × Int)) (a2 a3 a4 a5 a6 : Option (Bool × D)),
    ∃ ρ', forN (pTup 4 (pCons (pName 2) (pCons (pName 3) (pCons (pName 4) (pCons (pName 5) pNil))))) soB (ws.map fun w => oneD P Q w.1 w.2) (soA P Q a2 a3 a4 a5 a6) = W.ret ((match soonL P Q ws with | some (n, d, x) => Fl.rt (false, hitD n d x) | none => Fl.nx), ρ')
  | [], a2, a3, a4, a5, a6 => ⟨_, rfl⟩
  | (n, d) :: ws, a2, a3, a4, a5, a6 => by
    obtain ⟨a', e⟩ := so_inner t n d P.names a6 fun x hx => hx
    have eb : soB (soE P Q n d a6) = W.ret ((match findE P Q n d P.names with | some x => Fl.rt (false, hitD n d x) | none => Fl.nx), soE P Q n d a') := by
      refine Eq.trans (for_eq (ds := P.names.map D.str) (walk_eq (d := .tup (P.names.map D.str)) (de_eq (b := false) (prop_names P t.p.lp rfl)) rfl)) ?_
      unfold soE
      rw [frz0]
      exact e
    have un : soonL P Q ((n, d) :: ws) = match findE P Q n d P.names with
      | some x => some (n, d, x)
      | none => soonL P Q ws := rfl
    rw [List.map_cons, un]
    revert eb
    rcases findE P Q n d P.names with _ | x
    · intro eb
      obtain ⟨ρ', ih⟩ := so_loop t ws (some (false, .str n)) (some (false, .int d)) (some (false, .dic (dayD P.names (daysM P (oneF n d))))) (some (false, .dic (dayD Q.names (daysM Q (oneF n d))))) a'
      refine ⟨ρ', ?_⟩
      show (W.bind (soB (soE P Q n d a6)) _) = _
      rw [eb]
      exact ih
    · intro eb
      refine ⟨soE P Q n d a', ?_⟩
      show (W.bind (soB (soE P Q n d a6)) _) = _
      rw [eb]
      rfl
theorem sooner_eq {P Q : Pl} (t : Two P Q) (hz : (worldsL P Q).length ≤ sizeLine) : sem_sooner [plD P, plD Q] = W.ret (false, soonD (soonL P Q (worldsL P Q))) := by
  have e1 : mDo (mDe (mCall 2 sem_need_same [] (mCons (mVar 0) (mCons (mVar 1) mNil)))) (soA P Q none none none none none) = W.ret (.nx, soA P Q none none none none none) := by
    have c : (mDe (mCall 2 sem_need_same [] (mCons (mVar 0) (mCons (mVar 1) mNil)))) (see [] (soA P Q none none none none none)) = W.ret .non := de_eq (b := false) (call_eq (ds := [plD P, plD Q]) rfl rfl (need_same_eq t))
    show (W.bind (up _ ((mDe (mCall 2 sem_need_same [] (mCons (mVar 0) (mCons (mVar 1) mNil)))) (see [] (soA P Q none none none none none)))) fun _ => W.ret (Fl.nx, _)) = _
    rw [c]; rfl
  obtain ⟨ρ', e2⟩ := so_loop t (worldsL P Q) none none none none none
  have e3 : (mFor [0, 1] (mWalk (mDe (mCall 2 sem_unlike_days [] (mCons (mVar 0) (mCons (mVar 1) mNil))))) (pTup 4 (pCons (pName 2) (pCons (pName 3) (pCons (pName 4) (pCons (pName 5) pNil))))) soB) (soA P Q none none none none none) = W.ret ((match soonL P Q (worldsL P Q) with | some (n, d, x) => Fl.rt (false, hitD n d x) | none => Fl.nx), ρ') :=
    Eq.trans (for_eq (ds := (worldsL P Q).map fun w => oneD P Q w.1 w.2) (walk_eq (d := .lst ((worldsL P Q).map fun w => oneD P Q w.1 w.2)) (de_eq (b := true) (call_eq (ds := [plD P, plD Q]) rfl rfl (unlike_eq t hz))) rfl)) e2
  refine run_ret _ _ _ _ ρ' ((seq_nx e1).trans ?_)
  revert e3
  rcases soonL P Q (worldsL P Q) with _ | ⟨n, d, x⟩
  · intro e3; exact (seq_nx e3).trans (ret_eq rfl)
  · intro e3; exact seq_rt e3
theorem never_eq {P Q : Pl} (t : Two P Q) (hz : (worldsL P Q).length ≤ sizeLine) : sem_never_sooner [plD P, plD Q] = W.ret (false, .bl (soonL P Q (worldsL P Q)).isNone) := by
  refine run_ret _ _ _ _ _ (ret_eq (dr_eq (op_eq (a := soonD (soonL P Q (worldsL P Q))) (b := .non) (de_eq (b := false) (call_eq (ds := [plD P, plD Q]) rfl rfl (sooner_eq t hz))) rfl ?_)))
  rcases soonL P Q (worldsL P Q) with _ | ⟨n, d, x⟩ <;> rfl
theorem alike_eq {P Q : Pl} (t : Two P Q) (hz : (worldsL P Q).length ≤ sizeLine) (hz' : (worldsL Q P).length ≤ sizeLine) : sem_alike [plD P, plD Q] = W.ret (false, .bl ((soonL P Q (worldsL P Q)).isNone && (soonL Q P (worldsL Q P)).isNone)) :=
  run_ret _ _ _ _ _ (ret_eq (dr_eq (andV_eq _ _ (de_eq (b := false) (call_eq (ds := [plD P, plD Q]) rfl rfl (never_eq t hz))) fun _ => de_eq (b := false) (call_eq (ds := [plD Q, plD P]) rfl rfl (never_eq t.symm hz')))))
end FbL
end

section
set_option Elab.async false
set_option linter.all false
set_option maxRecDepth 100000
set_option maxHeartbeats 1000000
namespace FbL
open PySem PySem.Spec PyProof.Rows L2 Fb
theorem leM_lt {x y : Met} (h : x.day < y.day) : leM x y = true := by
  show (!PySem.W.dataLt (.tuple [.int y.day, .str y.one, .str y.other]) (.tuple [.int x.day, .str x.one, .str x.other])) = true
  have : PySem.W.dataLt (.tuple [.int y.day, .str y.one, .str y.other]) (.tuple [.int x.day, .str x.one, .str x.other]) = false := by
    show PyProof.Rows.lexLt itemOrd (PySem.W.keyToksAll _) (PySem.W.keyToksAll _) = false
    rw [PySem.W.dataLt_cons rfl, if_neg (by show ¬ ((y.day == x.day) = true); simp; omega)]
    rw [PySem.W.dataLt_int]
    exact decide_eq_false (by omega)
  rw [this]; rfl
theorem sorted_self {ms : List Met} (h : ms.Pairwise fun x y => x.day < y.day) : ms.mergeSort leM = ms :=
  List.mergeSort_of_pairwise (h.imp fun z => leM_lt z)
theorem stepM_at (wt : Str → Int) (f : Str → Option Int) (m : Met) (n : Str) : stepM wt f m n = if n = m.one then passM (f m.other) (wt m.other) m.day (f m.one) else if n = m.other then passM (f m.one) (wt m.one) m.day (f m.other) else f n := rfl
theorem leM_gt {x y : Met} (h : y.day < x.day) : leM x y = false := by
  show (!PySem.W.dataLt (.tuple [.int y.day, .str y.one, .str y.other]) (.tuple [.int x.day, .str x.one, .str x.other])) = false
  have : PySem.W.dataLt (.tuple [.int y.day, .str y.one, .str y.other]) (.tuple [.int x.day, .str x.one, .str x.other]) = true := by
    show PyProof.Rows.lexLt itemOrd (PySem.W.keyToksAll _) (PySem.W.keyToksAll _) = true
    rw [PySem.W.dataLt_cons rfl, if_neg (by show ¬ ((y.day == x.day) = true); simp; omega)]
    rw [PySem.W.dataLt_int]
    exact decide_eq_true h
  rw [this]; rfl
theorem sort_last {ms l0 : List Met} {m : Met} (hp : ms.Perm (m :: l0)) (h : ∀ x ∈ l0, x.day < m.day) : ∃ l, ms.mergeSort leM = l ++ [m] ∧ l.Perm l0 := by
  have hs := PySem.W.sort_pairwise (PySem.W.sortLe_total (listOrd itemOrd) false fun x : Met => PySem.W.keyToks (encD (metD x))) ms
  have hq : (ms.mergeSort leM).Perm (m :: l0) := (List.mergeSort_perm ms leM).trans hp
  have hs : (ms.mergeSort leM).Pairwise fun a b => leM a b = true := hs
  generalize ms.mergeSort leM = s at hq hs
  obtain ⟨s1, s2, rfl⟩ := List.append_of_mem (hq.mem_iff.mpr List.mem_cons_self)
  have hr : (s1 ++ s2).Perm l0 := ((List.perm_middle.symm.trans hq)).cons_inv
  have he : s2 = [] := by
    cases s2 with
    | nil => rfl
    | cons y r =>
      have hy : y ∈ l0 := hr.mem_iff.mp (List.mem_append_right _ List.mem_cons_self)
      have := (List.pairwise_cons.mp (List.pairwise_append.mp hs).2.1).1 y List.mem_cons_self
      rw [leM_gt (h y hy)] at this
      cases this
  subst he
  exact ⟨s1, rfl, by rw [List.append_nil] at hr; exact hr⟩

/-! ### plans of a, b, c -/
def pp (late lo hi : Int) : List Per := [⟨"a", late, 0, some (lo, hi)⟩, ⟨"b", 1, 0, none⟩, ⟨"c", 1, 0, none⟩]
def mk (late lo hi : Int) (ms : List Met) : Pl := ⟨pp late lo hi, ms⟩
theorem w_a (late lo hi : Int) : waitOf (pp late lo hi) "a" = late := rfl
theorem w_b (late lo hi : Int) : waitOf (pp late lo hi) "b" = 1 := rfl
theorem w_c (late lo hi : Int) : waitOf (pp late lo hi) "c" = 1 := rfl
theorem mk_ok {late lo hi : Int} (h1 : 1 ≤ late) (h0 : 0 ≤ lo) (h : lo ≤ hi) {ms : List Met} (hl : ms.length ≤ 1000) (hm : ∀ m ∈ ms, 0 ≤ m.day ∧ ((m.one = "a" ∧ m.other = "b") ∨ (m.one = "b" ∧ m.other = "a") ∨ (m.one = "b" ∧ m.other = "c"))) : (mk late lo hi ms).Ok := by
  refine ⟨by simp [mk, pp], small (by show 3 ≤ 1000; decide), small hl, ?_, (show (["a", "b", "c"] : List Str).Nodup by decide), ?_⟩
  · intro p hp
    simp only [mk, pp, List.mem_cons, List.not_mem_nil, or_false] at hp
    have na : nameOk "a" = true := by decide
    have nb : nameOk "b" = true := by decide
    have nc : nameOk "c" = true := by decide
    rcases hp with rfl | rfl | rfl
    · show (nameOk "a" && (decide (1 ≤ late) && (decide ((0 : Int) ≤ 0) && (decide (0 ≤ lo) && decide (0 ≤ hi) && decide (lo ≤ hi))))) = true
      rw [na, decide_eq_true h1, decide_eq_true h0, decide_eq_true h, decide_eq_true (Int.le_trans h0 h)]
      rfl
    · decide
    · decide
  · intro m hm'
    obtain ⟨hd, hn⟩ := hm m hm'
    rcases m with ⟨day, one, other⟩
    have hd : 0 ≤ day := hd
    show (decide (0 ≤ day) && (nameOk one && nameOk other && !(one == other) && (((["a", "b", "c"] : List Str).any fun y => y == one) && ((["a", "b", "c"] : List Str).any fun y => y == other)))) = true
    rw [decide_eq_true hd]
    rcases hn with ⟨e1, e2⟩ | ⟨e1, e2⟩ | ⟨e1, e2⟩ <;> (have e1 : one = _ := e1; have e2 : other = _ := e2; subst e1 e2; decide)
theorem mk_two {late lo hi : Int} (h1 : 1 ≤ late) (h0 : 0 ≤ lo) (h : lo ≤ hi) {ms ns : List Met} (hl : ms.length ≤ 2) (hl' : ns.length ≤ 2) (hm : ∀ m ∈ ms, 0 ≤ m.day ∧ ((m.one = "a" ∧ m.other = "b") ∨ (m.one = "b" ∧ m.other = "a") ∨ (m.one = "b" ∧ m.other = "c")))
    (hn : ∀ m ∈ ns, 0 ≤ m.day ∧ ((m.one = "a" ∧ m.other = "b") ∨ (m.one = "b" ∧ m.other = "a") ∨ (m.one = "b" ∧ m.other = "c"))) : Two (mk late lo hi ms) (mk late lo hi ns) :=
  ⟨mk_ok h1 h0 h (by omega) hm, mk_ok h1 h0 h (by omega) hn, rfl, by show 3 ≤ 1000; decide, by show ms.length ≤ 1000; omega, by show ns.length ≤ 1000; omega⟩
theorem worlds_mk (late lo hi : Int) (ms ns : List Met) : worldsL (mk late lo hi ms) (mk late lo hi ns) = (turnL (ms ++ ns) late "a" lo hi).map fun d => (("a" : Str), d) := by
  show ((turnL (ms ++ ns) late "a" lo hi).map fun d => (("a" : Str), d)) ++ [] = _
  rw [List.append_nil]
theorem worlds_len {late lo hi : Int} {ms ns : List Met} (hl : ms.length ≤ 2) (hl' : ns.length ≤ 2) : (worldsL (mk late lo hi ms) (mk late lo hi ns)).length ≤ sizeLine := by
  rw [worlds_mk, List.length_map]
  unfold turnL
  have h1 := List.length_filter_le (fun d => decide (lo ≤ d) && decide (d ≤ hi)) (lo :: stirL late "a" (ms ++ ns))
  have h2 := stir_len late "a" (ms ++ ns)
  rw [List.length_append] at h2
  rw [List.length_cons] at h1
  have := big
  omega
theorem soon_none' (P Q : Pl) : ∀ l : List (Str × Int), (∀ w ∈ l, findE P Q w.1 w.2 P.names = none) → soonL P Q l = none
  | [], _ => rfl
  | (n, d) :: l, h => by
    show (match findE P Q n d P.names with | some x => some (n, d, x) | none => soonL P Q l) = none
    rw [show findE P Q n d P.names = none from h (n, d) List.mem_cons_self]
    exact soon_none' P Q l fun w hw => h w (List.mem_cons_of_mem _ hw)
theorem soon_none {late lo hi : Int} {ms ns : List Met} (h : ∀ d, lo ≤ d → d ≤ hi → ∀ x ∈ (["a", "b", "c"] : List Str), earlier (daysM (mk late lo hi ms) (oneF "a" d) x) (daysM (mk late lo hi ns) (oneF "a" d) x) = false) : soonL (mk late lo hi ms) (mk late lo hi ns) (worldsL (mk late lo hi ms) (mk late lo hi ns)) = none := by
  refine soon_none' _ _ _ fun w hw => ?_
  rw [worlds_mk] at hw
  obtain ⟨d, hd, rfl⟩ := List.mem_map.mp hw
  have hd := (List.mem_filter.mp hd).2
  obtain ⟨h1, h2⟩ := Bool.and_eq_true_iff.mp hd
  exact List.find?_eq_none.mpr fun x hx => by
    rw [h d (of_decide_eq_true h1) (of_decide_eq_true h2) x hx]
    exact Bool.false_ne_true
theorem soon_some {late lo hi : Int} {ms ns : List Met} (hle : lo ≤ hi) {x : Str} (h : findE (mk late lo hi ms) (mk late lo hi ns) "a" lo ["a", "b", "c"] = some x) : soonL (mk late lo hi ms) (mk late lo hi ns) (worldsL (mk late lo hi ms) (mk late lo hi ns)) = some (("a" : Str), lo, x) := by
  rw [worlds_mk]
  unfold turnL
  rw [List.filter_cons_of_pos (by rw [decide_eq_true (Int.le_refl lo), decide_eq_true hle]; rfl), List.map_cons]
  show (match findE (mk late lo hi ms) (mk late lo hi ns) "a" lo ["a", "b", "c"] with | some x => some (("a" : Str), lo, x) | none => _) = _
  rw [h]
/-! ### days -/
theorem days_0 (late lo hi : Int) (f : Str → Option Int) : daysM (mk late lo hi []) f = f := by
  unfold daysM
  show (([] : List Met).mergeSort leM).foldl _ f = f
  rw [sorted_self (ms := []) (by simp)]
  rfl
theorem days_1 (late lo hi : Int) (m : Met) (f : Str → Option Int) : daysM (mk late lo hi [m]) f = stepM (waitOf (pp late lo hi)) f m := by
  unfold daysM
  show ([m].mergeSort leM).foldl _ f = _
  rw [sorted_self (ms := [m]) (by simp)]
  rfl
theorem days_2 (late lo hi : Int) {m n : Met} (h : m.day < n.day) (f : Str → Option Int) : daysM (mk late lo hi [m, n]) f = stepM (waitOf (pp late lo hi)) (stepM (waitOf (pp late lo hi)) f m) n := by
  unfold daysM
  show ([m, n].mergeSort leM).foldl _ f = _
  rw [sorted_self (ms := [m, n]) (by simpa using h)]
  rfl
theorem days_2r (late lo hi : Int) {m n : Met} (h : n.day < m.day) (f : Str → Option Int) : daysM (mk late lo hi [m, n]) f = stepM (waitOf (pp late lo hi)) (stepM (waitOf (pp late lo hi)) f n) m := by
  unfold daysM
  show ([m, n].mergeSort leM).foldl _ f = _
  obtain ⟨l, hl, hp⟩ := sort_last (ms := [m, n]) (m := m) (l0 := [n]) (.refl _) (by intro x hx; cases List.mem_singleton.mp hx; exact h)
  rw [hl, List.perm_singleton.mp hp]
  rfl
theorem ab : ("a" : Str) ≠ "b" := by decide
theorem ac : ("a" : Str) ≠ "c" := by decide
theorem bc : ("b" : Str) ≠ "c" := by decide
/-- a meeting of a and b, one of them none yet -/
theorem st_ab {late lo hi : Int} {f : Str → Option Int} {d far : Int} (fa : f "a" = some d) (fb : f "b" = none) : stepM (waitOf (pp late lo hi)) f ⟨far, "a", "b"⟩ "a" = some d ∧ stepM (waitOf (pp late lo hi)) f ⟨far, "a", "b"⟩ "b" = (if far < d + late then none else some far) ∧ stepM (waitOf (pp late lo hi)) f ⟨far, "a", "b"⟩ "c" = f "c" := by
  refine ⟨?_, ?_, ?_⟩
  · rw [stepM_at, if_pos rfl, fa]
    show passM (f "b") _ far (some d) = _
    rw [fb]; rfl
  · rw [stepM_at, if_neg ab.symm, if_pos rfl]
    show passM (f "a") late far (f "b") = _
    rw [fa, fb]; rfl
  · rw [stepM_at, if_neg ac.symm, if_neg bc.symm]
theorem st_ba {late lo hi : Int} {f : Str → Option Int} {d far : Int} (fa : f "a" = some d) (fb : f "b" = none) : stepM (waitOf (pp late lo hi)) f ⟨far, "b", "a"⟩ "a" = some d ∧ stepM (waitOf (pp late lo hi)) f ⟨far, "b", "a"⟩ "b" = (if far < d + late then none else some far) ∧ stepM (waitOf (pp late lo hi)) f ⟨far, "b", "a"⟩ "c" = f "c" := by
  refine ⟨?_, ?_, ?_⟩
  · rw [stepM_at, if_neg ab, if_pos rfl, fa]
    show passM (f "b") _ far (some d) = _
    rw [fb]; rfl
  · rw [stepM_at, if_pos rfl]
    show passM (f "a") late far (f "b") = _
    rw [fa, fb]; rfl
  · rw [stepM_at, if_neg bc.symm, if_neg ac.symm]
/-- behind which b bears it -/
theorem st_ab2 {late lo hi : Int} {f : Str → Option Int} {d e far : Int} (fa : f "a" = some d) (fb : f "b" = some e) (h1 : e + 1 ≤ far) (h2 : d + late ≤ far) (h3 : d < far) : stepM (waitOf (pp late lo hi)) f ⟨far, "a", "b"⟩ "a" = some d ∧ stepM (waitOf (pp late lo hi)) f ⟨far, "a", "b"⟩ "b" = some e ∧ stepM (waitOf (pp late lo hi)) f ⟨far, "a", "b"⟩ "c" = f "c" := by
  refine ⟨?_, ?_, ?_⟩
  · rw [stepM_at, if_pos rfl, fa]
    show passM (f "b") 1 far (some d) = _
    rw [fb]
    show (if far < e + 1 then some d else some (if d < far then d else far)) = _
    rw [if_neg (by omega), if_pos h3]
  · rw [stepM_at, if_neg ab.symm, if_pos rfl]
    show passM (f "a") late far (f "b") = _
    rw [fa, fb]
    show (if far < d + late then some e else some (if e < far then e else far)) = _
    rw [if_neg (by omega), if_pos (by omega)]
  · rw [stepM_at, if_neg ac.symm, if_neg bc.symm]
theorem st_bc {late lo hi : Int} {f : Str → Option Int} {far : Int} (fc : f "c" = none) : stepM (waitOf (pp late lo hi)) f ⟨far, "b", "c"⟩ "a" = f "a" ∧ stepM (waitOf (pp late lo hi)) f ⟨far, "b", "c"⟩ "b" = f "b" ∧ stepM (waitOf (pp late lo hi)) f ⟨far, "b", "c"⟩ "c" = passM (f "b") 1 far none := by
  refine ⟨?_, ?_, ?_⟩
  · rw [stepM_at, if_neg ab, if_neg ac]
  · rw [stepM_at, if_pos rfl]
    show passM (f "c") 1 far (f "b") = _
    rw [fc]; rfl
  · rw [stepM_at, if_neg bc.symm, if_pos rfl]
    show passM (f "b") 1 far (f "c") = _
    rw [fc]
theorem o_a (d : Int) : oneF "a" d "a" = some d := if_pos rfl
theorem o_b (d : Int) : oneF "a" d "b" = none := if_neg ab.symm
theorem o_c (d : Int) : oneF "a" d "c" = none := if_neg ac.symm
theorem abc {p : Str → Prop} (ha : p "a") (hb : p "b") (hc : p "c") : ∀ x ∈ (["a", "b", "c"] : List Str), p x := fun x hx => by
  simp only [List.mem_cons, List.not_mem_nil, or_false] at hx
  rcases hx with rfl | rfl | rfl
  · exact ha
  · exact hb
  · exact hc
theorem ear_self (o : Option Int) : earlier o o = false := by
  cases o with
  | none => rfl
  | some x => exact decide_eq_false (by omega)
end FbL
end

section
set_option Elab.async false
set_option linter.all false
set_option maxRecDepth 100000
set_option maxHeartbeats 1000000
namespace FbL
open PySem PySem.Spec PyProof.Rows L2 Fb
abbrev mAB (d : Int) : Met := ⟨d, "a", "b"⟩
abbrev mBA (d : Int) : Met := ⟨d, "b", "a"⟩
abbrev mBC (d : Int) : Met := ⟨d, "b", "c"⟩
section
variable {far late low : Int}
/-- what holds by the days of one plan -/
structure DD (f : Str → Option Int) (a b c : Option Int) : Prop where
  a : f "a" = a
  b : f "b" = b
  c : f "c" = c
theorem dP1 (lo hi : Int) (d : Int) : DD (daysM (mk late lo hi [mAB far, mBC (far + 1)]) (oneF "a" d)) (some d) (if far < d + late then none else some far) (if far < d + late then none else some (far + 1)) := by
  rw [days_2 late lo hi (by show far < far + 1; omega)]
  obtain ⟨h1, h2, h3⟩ := st_ab (late := late) (lo := lo) (hi := hi) (far := far) (o_a d) (o_b d)
  obtain ⟨k1, k2, k3⟩ := st_bc (late := late) (lo := lo) (hi := hi) (far := far + 1) (h3.trans (o_c d))
  refine ⟨k1.trans h1, k2.trans h2, k3.trans ?_⟩
  rw [h2]
  by_cases h : far < d + late
  · rw [if_pos h, if_pos h]; rfl
  · rw [if_neg h, if_neg h]
    show (if far + 1 < far + 1 then none else some (far + 1)) = _
    rw [if_neg (by omega)]
theorem dQ1 (lo hi : Int) (d : Int) : DD (daysM (mk late lo hi [mAB far]) (oneF "a" d)) (some d) (if far < d + late then none else some far) none := by
  rw [days_1]
  obtain ⟨h1, h2, h3⟩ := st_ab (late := late) (lo := lo) (hi := hi) (far := far) (o_a d) (o_b d)
  exact ⟨h1, h2, h3.trans (o_c d)⟩
theorem dQ2 (lo hi : Int) (d : Int) : DD (daysM (mk late lo hi []) (oneF "a" d)) (some d) none none := by
  rw [days_0]
  exact ⟨o_a d, o_b d, o_c d⟩
theorem dQ3 (lo hi : Int) (hl : 1 ≤ late) (d : Int) (hd : d + late ≤ far) : DD (daysM (mk late lo hi [mAB far, mBA (far - 1)]) (oneF "a" d)) (some d) (if far - 1 < d + late then some far else some (far - 1)) none := by
  rw [days_2r late lo hi (by show far - 1 < far; omega)]
  obtain ⟨h1, h2, h3⟩ := st_ba (late := late) (lo := lo) (hi := hi) (far := far - 1) (o_a d) (o_b d)
  by_cases h : far - 1 < d + late
  · rw [if_pos h] at h2
    obtain ⟨k1, k2, k3⟩ := st_ab (late := late) (lo := lo) (hi := hi) (far := far) h1 h2
    rw [if_neg (by omega)] at k2
    rw [if_pos h]
    exact ⟨k1, k2, k3.trans (h3.trans (o_c d))⟩
  · rw [if_neg h] at h2
    obtain ⟨k1, k2, k3⟩ := st_ab2 (late := late) (lo := lo) (hi := hi) (far := far) h1 h2 (by omega) hd (by omega)
    rw [if_neg h]
    exact ⟨k1, k2, k3.trans (h3.trans (o_c d))⟩
theorem dQ4 (lo hi : Int) (d : Int) (hd : far - 1 < d + late) : DD (daysM (mk late lo hi [mBA far, mBA (far - 1)]) (oneF "a" d)) (some d) (if far < d + late then none else some far) none := by
  rw [days_2r late lo hi (by show far - 1 < far; omega)]
  obtain ⟨h1, h2, h3⟩ := st_ba (late := late) (lo := lo) (hi := hi) (far := far - 1) (o_a d) (o_b d)
  rw [if_pos hd] at h2
  obtain ⟨k1, k2, k3⟩ := st_ba (late := late) (lo := lo) (hi := hi) (far := far) h1 h2
  exact ⟨k1, k2, k3.trans (h3.trans (o_c d))⟩
theorem none_of {lo hi : Int} {ms ns : List Met} (h : ∀ d, lo ≤ d → d ≤ hi → ∃ a b c b' c', DD (daysM (mk late lo hi ms) (oneF "a" d)) a b c ∧ DD (daysM (mk late lo hi ns) (oneF "a" d)) a b' c' ∧ earlier b b' = false ∧ earlier c c' = false) : soonL (mk late lo hi ms) (mk late lo hi ns) (worldsL (mk late lo hi ms) (mk late lo hi ns)) = none := by
  refine soon_none fun d h1 h2 => ?_
  obtain ⟨a, b, c, b', c', D1, D2, e1, e2⟩ := h d h1 h2
  refine abc (p := fun x => earlier (daysM (mk late lo hi ms) (oneF "a" d) x) (daysM (mk late lo hi ns) (oneF "a" d) x) = false) ?_ ?_ ?_
  · rw [D1.a, D2.a]; exact ear_self a
  · rw [D1.b, D2.b]; exact e1
  · rw [D1.c, D2.c]; exact e2
theorem N1 (lo hi : Int) : soonL (mk late lo hi [mAB far]) (mk late lo hi [mAB far, mBC (far + 1)]) (worldsL (mk late lo hi [mAB far]) (mk late lo hi [mAB far, mBC (far + 1)])) = none :=
  none_of fun d _ _ => ⟨_, _, _, _, _, dQ1 lo hi d, dP1 lo hi d, ear_self _, rfl⟩
theorem S1 {hi : Int} (h1 : low + late ≤ far) (h2 : low ≤ hi) : soonL (mk late low hi [mAB far, mBC (far + 1)]) (mk late low hi [mAB far]) (worldsL (mk late low hi [mAB far, mBC (far + 1)]) (mk late low hi [mAB far])) = some (("a" : Str), low, ("c" : Str)) := by
  refine soon_some h2 ?_
  have P := dP1 (late := late) (far := far) low hi low
  have Q := dQ1 (late := late) (far := far) low hi low
  have ea : earlier (daysM (mk late low hi [mAB far, mBC (far + 1)]) (oneF "a" low) "a") (daysM (mk late low hi [mAB far]) (oneF "a" low) "a") = false := by rw [P.a, Q.a]; exact ear_self _
  have eb : earlier (daysM (mk late low hi [mAB far, mBC (far + 1)]) (oneF "a" low) "b") (daysM (mk late low hi [mAB far]) (oneF "a" low) "b") = false := by rw [P.b, Q.b]; exact ear_self _
  have ec : earlier (daysM (mk late low hi [mAB far, mBC (far + 1)]) (oneF "a" low) "c") (daysM (mk late low hi [mAB far]) (oneF "a" low) "c") = true := by rw [P.c, Q.c, if_neg (by omega)]; rfl
  unfold findE
  rw [List.find?_cons, ea, List.find?_cons, eb, List.find?_cons, ec]
theorem N2 {lo hi : Int} (h : lo = far - late + 1) : soonL (mk late lo hi [mAB far, mBC (far + 1)]) (mk late lo hi []) (worldsL (mk late lo hi [mAB far, mBC (far + 1)]) (mk late lo hi [])) = none ∧ soonL (mk late lo hi []) (mk late lo hi [mAB far, mBC (far + 1)]) (worldsL (mk late lo hi []) (mk late lo hi [mAB far, mBC (far + 1)])) = none := by
  have P : ∀ d, lo ≤ d → DD (daysM (mk late lo hi [mAB far, mBC (far + 1)]) (oneF "a" d)) (some d) none none := fun d hd => by
    have := dP1 (late := late) (far := far) lo hi d
    rw [if_pos (by omega), if_pos (by omega)] at this
    exact this
  exact ⟨none_of fun d h1 _ => ⟨_, _, _, _, _, P d h1, dQ2 lo hi d, rfl, rfl⟩, none_of fun d h1 _ => ⟨_, _, _, _, _, dQ2 lo hi d, P d h1, rfl, rfl⟩⟩
theorem N3 {lo hi : Int} (hl : 1 ≤ late) (h : hi = far - late) : soonL (mk late lo hi [mAB far]) (mk late lo hi [mAB far, mBA (far - 1)]) (worldsL (mk late lo hi [mAB far]) (mk late lo hi [mAB far, mBA (far - 1)])) = none :=
  none_of fun d h1 h2 => ⟨_, _, _, _, _, dQ1 lo hi d, dQ3 lo hi hl d (by omega), by
    rw [if_neg (by omega)]
    by_cases k : far - 1 < d + late
    · rw [if_pos k]; exact ear_self _
    · rw [if_neg k]; exact decide_eq_false (by omega), rfl⟩
theorem S3 {lo hi : Int} (hl : 1 ≤ late) (h : hi = far - late) (h1 : lo + late ≤ far - 1) : soonL (mk late lo hi [mAB far, mBA (far - 1)]) (mk late lo hi [mAB far]) (worldsL (mk late lo hi [mAB far, mBA (far - 1)]) (mk late lo hi [mAB far])) = some (("a" : Str), lo, ("b" : Str)) := by
  refine soon_some (by omega) ?_
  have Q := dQ1 (late := late) (far := far) lo hi lo
  have P := dQ3 (late := late) (far := far) lo hi hl lo (by omega)
  have ea : earlier (daysM (mk late lo hi [mAB far, mBA (far - 1)]) (oneF "a" lo) "a") (daysM (mk late lo hi [mAB far]) (oneF "a" lo) "a") = false := by rw [P.a, Q.a]; exact ear_self _
  have eb : earlier (daysM (mk late lo hi [mAB far, mBA (far - 1)]) (oneF "a" lo) "b") (daysM (mk late lo hi [mAB far]) (oneF "a" lo) "b") = true := by
    rw [P.b, Q.b, if_neg (by omega), if_neg (by omega)]
    exact decide_eq_true (by omega)
  unfold findE
  rw [List.find?_cons, ea, List.find?_cons, eb]
theorem N4 {lo hi : Int} (h : lo = far - late) : soonL (mk late lo hi [mAB far]) (mk late lo hi [mBA far, mBA (far - 1)]) (worldsL (mk late lo hi [mAB far]) (mk late lo hi [mBA far, mBA (far - 1)])) = none ∧ soonL (mk late lo hi [mBA far, mBA (far - 1)]) (mk late lo hi [mAB far]) (worldsL (mk late lo hi [mBA far, mBA (far - 1)]) (mk late lo hi [mAB far])) = none :=
  ⟨none_of fun d h1 _ => ⟨_, _, _, _, _, dQ1 lo hi d, dQ4 lo hi d (by omega), ear_self _, rfl⟩, none_of fun d h1 _ => ⟨_, _, _, _, _, dQ4 lo hi d (by omega), dQ1 lo hi d, ear_self _, rfl⟩⟩
end
/-! ### the answers -/
structure Num (far late i : Int) : Prop where
  l1 : 1 ≤ late
  l2 : late ≤ 1000000000
  f : 100000000000000000 ≤ far
  i0 : 0 ≤ i
  i5 : i < 5
section
variable {far late i : Int} (n : Num far late i)
def P1 (far late i : Int) : Pl := mk late (far - late - i) far [mAB far, mBC (far + 1)]
def Q1 (far late i : Int) : Pl := mk late (far - late - i) far [mAB far]
def P2 (far late : Int) : Pl := mk late (far - late + 1) far [mAB far, mBC (far + 1)]
def Q2 (far late : Int) : Pl := mk late (far - late + 1) far []
def P3 (far late : Int) : Pl := mk late 0 (far - late) [mAB far]
def Q3 (far late : Int) : Pl := mk late 0 (far - late) [mAB far, mBA (far - 1)]
def P4 (far late : Int) : Pl := mk late (far - late) far [mAB far]
def Q4 (far late : Int) : Pl := mk late (far - late) far [mBA far, mBA (far - 1)]
include n
theorem m1 : ∀ m ∈ [mAB far, mBC (far + 1)], 0 ≤ m.day ∧ ((m.one = "a" ∧ m.other = "b") ∨ (m.one = "b" ∧ m.other = "a") ∨ (m.one = "b" ∧ m.other = "c")) := fun m hm => by
  have := n.f
  simp only [List.mem_cons, List.not_mem_nil, or_false] at hm
  rcases hm with rfl | rfl
  · exact ⟨by show 0 ≤ far; omega, .inl ⟨rfl, rfl⟩⟩
  · exact ⟨by show 0 ≤ far + 1; omega, .inr (.inr ⟨rfl, rfl⟩)⟩
theorem m2 : ∀ m ∈ [mAB far], 0 ≤ m.day ∧ ((m.one = "a" ∧ m.other = "b") ∨ (m.one = "b" ∧ m.other = "a") ∨ (m.one = "b" ∧ m.other = "c")) := fun m hm => by
  have := n.f
  cases List.mem_singleton.mp hm
  exact ⟨by show 0 ≤ far; omega, .inl ⟨rfl, rfl⟩⟩
omit n in
theorem m0 : ∀ m ∈ ([] : List Met), 0 ≤ m.day ∧ ((m.one = "a" ∧ m.other = "b") ∨ (m.one = "b" ∧ m.other = "a") ∨ (m.one = "b" ∧ m.other = "c")) := fun m hm => nomatch hm
theorem m3 : ∀ m ∈ [mAB far, mBA (far - 1)], 0 ≤ m.day ∧ ((m.one = "a" ∧ m.other = "b") ∨ (m.one = "b" ∧ m.other = "a") ∨ (m.one = "b" ∧ m.other = "c")) := fun m hm => by
  have := n.f
  simp only [List.mem_cons, List.not_mem_nil, or_false] at hm
  rcases hm with rfl | rfl
  · exact ⟨by show 0 ≤ far; omega, .inl ⟨rfl, rfl⟩⟩
  · exact ⟨by show 0 ≤ far - 1; omega, .inr (.inl ⟨rfl, rfl⟩)⟩
theorem m4 : ∀ m ∈ [mBA far, mBA (far - 1)], 0 ≤ m.day ∧ ((m.one = "a" ∧ m.other = "b") ∨ (m.one = "b" ∧ m.other = "a") ∨ (m.one = "b" ∧ m.other = "c")) := fun m hm => by
  have := n.f
  simp only [List.mem_cons, List.not_mem_nil, or_false] at hm
  rcases hm with rfl | rfl
  · exact ⟨by show 0 ≤ far; omega, .inr (.inl ⟨rfl, rfl⟩)⟩
  · exact ⟨by show 0 ≤ far - 1; omega, .inr (.inl ⟨rfl, rfl⟩)⟩
theorem t1 : Two (P1 far late i) (Q1 far late i) := mk_two n.l1 (by have := n.f; have := n.l2; have := n.i5; omega) (by have := n.l1; have := n.i0; omega) (by simp) (by simp) (m1 n) (m2 n)
theorem t2 : Two (P2 far late) (Q2 far late) := mk_two n.l1 (by have := n.f; have := n.l2; omega) (by have := n.l1; omega) (by simp) (by simp) (m1 n) m0
theorem t3 : Two (P3 far late) (Q3 far late) := mk_two n.l1 (by decide) (by have := n.f; have := n.l2; omega) (by simp) (by simp) (m2 n) (m3 n)
theorem t4 : Two (P4 far late) (Q4 far late) := mk_two n.l1 (by have := n.f; have := n.l2; omega) (by have := n.l1; omega) (by simp) (by simp) (m2 n) (m4 n)
/-- the first pair -/
theorem s1' : soonL (Q1 far late i) (P1 far late i) (worldsL (Q1 far late i) (P1 far late i)) = none := N1 _ _
theorem A1 : sem_never_sooner [plD (Q1 far late i), plD (P1 far late i)] = W.ret (false, .bl true) := by
  rw [never_eq (t1 n).symm (worlds_len (by simp) (by simp)), s1' n]; rfl
theorem s1 : soonL (P1 far late i) (Q1 far late i) (worldsL (P1 far late i) (Q1 far late i)) = some (("a" : Str), far - late - i, ("c" : Str)) := S1 (by have := n.i0; omega) (by have := n.i0; have := n.l1; omega)
theorem B1 : sem_never_sooner [plD (P1 far late i), plD (Q1 far late i)] = W.ret (false, .bl false) := by
  rw [never_eq (t1 n) (worlds_len (by simp) (by simp)), s1 n]; rfl
theorem C1 : sem_alike [plD (P1 far late i), plD (Q1 far late i)] = W.ret (false, .bl false) := by
  rw [alike_eq (t1 n) (worlds_len (by simp) (by simp)) (worlds_len (by simp) (by simp)), s1 n]; rfl
theorem E1 : sem_sooner [plD (P1 far late i), plD (Q1 far late i)] = W.ret (false, hitD "a" (far - late - i) "c") := by
  rw [sooner_eq (t1 n) (worlds_len (by simp) (by simp)), s1 n]; rfl
theorem G1 : sem_sooner [plD (Q1 far late i), plD (P1 far late i)] = W.ret (false, .non) := by
  rw [sooner_eq (t1 n).symm (worlds_len (by simp) (by simp)), s1' n]; rfl
theorem s2 : soonL (P2 far late) (Q2 far late) (worldsL (P2 far late) (Q2 far late)) = none := (N2 rfl).1
theorem s2' : soonL (Q2 far late) (P2 far late) (worldsL (Q2 far late) (P2 far late)) = none := (N2 rfl).2
theorem A2 : sem_alike [plD (P2 far late), plD (Q2 far late)] = W.ret (false, .bl true) := by
  rw [alike_eq (t2 n) (worlds_len (by simp) (by simp)) (worlds_len (by simp) (by simp)), s2 n, s2' n]; rfl
theorem B2 : sem_sooner [plD (P2 far late), plD (Q2 far late)] = W.ret (false, .non) := by
  rw [sooner_eq (t2 n) (worlds_len (by simp) (by simp)), s2 n]; rfl
theorem C2 : sem_never_sooner [plD (P2 far late), plD (Q2 far late)] = W.ret (false, .bl true) := by
  rw [never_eq (t2 n) (worlds_len (by simp) (by simp)), s2 n]; rfl
theorem s3 : soonL (P3 far late) (Q3 far late) (worldsL (P3 far late) (Q3 far late)) = none := N3 n.l1 rfl
theorem s3' : soonL (Q3 far late) (P3 far late) (worldsL (Q3 far late) (P3 far late)) = some (("a" : Str), (0 : Int), ("b" : Str)) := S3 n.l1 rfl (by have := n.f; have := n.l2; omega)
theorem A3 : sem_never_sooner [plD (P3 far late), plD (Q3 far late)] = W.ret (false, .bl true) := by
  rw [never_eq (t3 n) (worlds_len (by simp) (by simp)), s3 n]; rfl
theorem B3 : sem_never_sooner [plD (Q3 far late), plD (P3 far late)] = W.ret (false, .bl false) := by
  rw [never_eq (t3 n).symm (worlds_len (by simp) (by simp)), s3' n]; rfl
theorem C3 : sem_sooner [plD (Q3 far late), plD (P3 far late)] = W.ret (false, hitD "a" 0 "b") := by
  rw [sooner_eq (t3 n).symm (worlds_len (by simp) (by simp)), s3' n]; rfl
theorem s4 : soonL (P4 far late) (Q4 far late) (worldsL (P4 far late) (Q4 far late)) = none := (N4 rfl).1
theorem s4' : soonL (Q4 far late) (P4 far late) (worldsL (Q4 far late) (P4 far late)) = none := (N4 rfl).2
theorem A4 : sem_alike [plD (P4 far late), plD (Q4 far late)] = W.ret (false, .bl true) := by
  rw [alike_eq (t4 n) (worlds_len (by simp) (by simp)) (worlds_len (by simp) (by simp)), s4 n, s4' n]; rfl
theorem B4 : sem_sooner [plD (Q4 far late), plD (P4 far late)] = W.ret (false, .non) := by
  rw [sooner_eq (t4 n).symm (worlds_len (by simp) (by simp)), s4' n]; rfl
end
def P5 : Pl := ⟨[⟨"a", 1, 0, none⟩], []⟩
theorem ok5 : P5.Ok := ⟨by simp [P5], small (by show 1 ≤ 1000; decide), small (by show 0 ≤ 1000; decide), by decide, by decide, fun m hm => nomatch hm⟩
theorem t5 : Two P5 P5 := ⟨ok5, ok5, rfl, by decide, by decide, by decide⟩
theorem A5 : sem_alike [plD P5, plD P5] = W.ret (false, .bl true) := by
  rw [alike_eq t5 (by show 0 ≤ _; omega) (by show 0 ≤ _; omega)]
  rfl
end FbL
end

section
set_option Elab.async false
set_option linter.all false
set_option maxRecDepth 100000
set_option maxHeartbeats 400000
namespace FbL
open PySem PySem.Spec PyProof.Rows L2 Fb
theorem par2_eq {i j : Nat} {fz fz' : List Nat} {m m' : Ro → W Ex (Bool × D)} {ρ : En} {r r' : Bool × D} (h : m (see fz ρ) = W.ret r) (h' : m' (wipeR (see fz' (asg fz i r ρ)) [i]) = W.ret r') : mPar [(i, fz, m), (j, fz', m')] ρ = W.ret (.nx, asg fz' j r' (asg fz i r ρ)) := by
  show W.bind (W.bind (up ρ (m (see fz ρ))) fun x => W.bind (up ρ (m' (wipeR (see fz' (asg fz i x ρ)) [i]))) fun y => W.ret (asg fz' j y (asg fz i x ρ))) (fun ρ' => W.ret (Fl.nx, ρ')) = _
  rw [h]
  show W.bind (W.bind (up ρ (m' (wipeR (see fz' (asg fz i r ρ)) [i]))) fun y => W.ret (asg fz' j y (asg fz i r ρ))) (fun ρ' => W.ret (Fl.nx, ρ')) = _
  rw [h']; rfl
theorem lput_eq {fz : List Nat} {i : Nat} {mk m : Ro → W Ex D} {ρ : En} {ds : List D} {d : D} {z : Int} {j : Nat} (h0 : ρ[i]? = some (some (true, .lst ds))) (hm : m (see fz ρ) = W.ret d) (hk : mk (ro ρ) = W.ret (.int z)) (hi : imm d = true) (hj : ixN ds.length z = some j) : mLput fz i mk m ρ = W.ret (.nx, ρ.set i (some (true, .lst (ds.set j d)))) := by
  show (W.got (slotL ρ[i]?) fun ds => W.bind (up ρ (m (see fz ρ))) fun d => W.bind (up ρ (mk (ro ρ))) fun k => W.got (asI k) fun z => W.got (tak fz i d ρ) fun ρ' => W.got (ixN ds.length z) fun j => W.ret (Fl.nx, ρ'.set i (some (true, D.lst (ds.set j d))))) = _
  rw [h0]
  show (W.bind (up ρ (m (see fz ρ))) fun d => W.bind (up ρ (mk (ro ρ))) fun k => W.got (asI k) fun z => W.got (tak fz i d ρ) fun ρ' => W.got (ixN ds.length z) fun j => W.ret (Fl.nx, ρ'.set i (some (true, D.lst (ds.set j d))))) = _
  rw [hm, hk]
  show (W.got (if imm d = true then some ρ else if i ∈ fz then none else some (frz fz ρ)) fun ρ' => W.got (ixN ds.length z) fun j => W.ret (Fl.nx, ρ'.set i (some (true, D.lst (ds.set j d))))) = _
  rw [if_pos hi]
  show (W.got (ixN ds.length z) fun j => W.ret (Fl.nx, ρ.set i (some (true, D.lst (ds.set j d))))) = _
  rw [hj]; rfl
theorem make1_eq (P : Pl) (h : P.Ok) (t : Bool) (hm : P.ms = []) {a : Ro → W Ex (List D)} {ρ : Ro} (ha : a ρ = W.ret [wrapD t (P.ps.map perD)]) : mMake "Plan" 3 sem_Plan___init__ [.tup []] a ρ = W.ret (false, plD P) := by
  unfold mMake
  rw [ha]
  have e := ini_eq P h t true
  rw [hm] at e
  have e2 : sem_Plan___init__ ([wrapD t (P.ps.map perD)] ++ [D.tup []]) = W.ret (plF P) := e
  rw [rb, if_pos (show ([wrapD t (P.ps.map perD)] ++ [D.tup []]).length + 1 = 3 from rfl), e2]
  rfl
def sl (b f : Bool) (d : D) : Option (Bool × D) := if b = true then some (f, d) else none
def crowd (late lo hi : Int) : D := .lst ((pp late lo hi).map perD)
def K (s d1 : D) (far late low : Int) (t : En) : En := some (false, s) :: some (false, d1) :: some (false, .box 1) :: some (false, .int far) :: some (false, .int late) :: some (false, .int low) :: t
def kw0 : En → WS := (mSet [0, 1] 2 (mCall 2 sem__law_seed [] (mCons (mVar 0) (mCons (mVar 1) mNil))))
def kw1 : En → WS := (mPar [(3, [2], (mOpR gAdd (mOp gPow (mC (.int 10)) (mC (.int 17))) (mDe (mCall 2 sem__law_choose [] (mCons (mVar 2) (mCons (mOp gPow (mC (.int 10)) (mC (.int 6))) mNil)))))), (4, [2], (mOpR gAdd (mC (.int 1)) (mDe (mCall 2 sem__law_choose [] (mCons (mVar 2) (mCons (mOp gPow (mC (.int 10)) (mC (.int 9))) mNil))))))])
def kw2 : En → WS := (mSet [3, 4, 2] 5 (mDr (mOp gSub (mOp gSub (mVar 3) (mVar 4)) (mDe (mCall 2 sem__law_choose [] (mCons (mVar 2) (mCons (mC (.int 5)) mNil)))))))
def kw3 : En → WS := (mSet [4, 5, 3] 6 (mLst (mCons (mTup (mCons (mC (.str "a")) (mCons (mVar 4) (mCons (mC (.int 0)) (mCons (mTup (mCons (mVar 5) (mCons (mVar 3) mNil))) mNil))))) (mCons (mTup (mCons (mC (.str "b")) (mCons (mC (.int 1)) (mCons (mC (.int 0)) (mCons (mC .non) mNil))))) (mCons (mTup (mCons (mC (.str "c")) (mCons (mC (.int 1)) (mCons (mC (.int 0)) (mCons (mC .non) mNil))))) mNil)))))
def kw4 : En → WS := (mPar [(7, [6, 3], (mMake "Plan" 3 sem_Plan___init__ [] (mCons (mVar 6) (mCons (mDe (mLst (mCons (mTup (mCons (mVar 3) (mCons (mC (.str "a")) (mCons (mC (.str "b")) mNil)))) (mCons (mTup (mCons (mDe (mOpR gAdd (mVar 3) (mC (.int 1)))) (mCons (mC (.str "b")) (mCons (mC (.str "c")) mNil)))) mNil)))) mNil)))), (8, [6, 3], (mMake "Plan" 3 sem_Plan___init__ [] (mCons (mVar 6) (mCons (mDe (mLst (mCons (mTup (mCons (mVar 3) (mCons (mC (.str "a")) (mCons (mC (.str "b")) mNil)))) mNil))) mNil))))])
def kw5 : En → WS := (mIf (mOr (mTest (mOp (gIsB true) (mDe (mCall 2 sem_never_sooner [] (mCons (mVar 8) (mCons (mVar 7) mNil)))) (mC (.bl true)))) (mOr (mTest (mOp (gIsB true) (mDe (mCall 2 sem_never_sooner [] (mCons (mVar 7) (mCons (mVar 8) mNil)))) (mC (.bl false)))) (mTest (mDe (mCall 2 sem_alike [] (mCons (mVar 7) (mCons (mVar 8) mNil))))))) (mRet (mDr (mC (.bl false)))) mSkip)
def kw6 : En → WS := (mSet [7, 8] 9 (mCall 2 sem_sooner [] (mCons (mVar 7) (mCons (mVar 8) mNil))))
def kw7 : En → WS := (mIf (mOr (mTest (mOp (gEq true) (mOp gIx (mVar 9) (mC (.int 1))) (mC (.str "c")))) (mOr (mTest (mOp (gEq true) (mOp gIx (mOp gIx (mOp gIx (mVar 9) (mC (.int 0))) (mC (.int 0))) (mC (.int 0))) (mC (.str "a")))) (mNot (mTest (mChain gLe gLe (mVar 5) (mOp gIx (mOp gIx (mOp gIx (mVar 9) (mC (.int 0))) (mC (.int 0))) (mC (.int 1))) (mOp gSub (mVar 3) (mVar 4))))))) (mRet (mDr (mC (.bl false)))) mSkip)
def kw8 : En → WS := (mIf (mTest (mOp (gIs true) (mDe (mCall 2 sem_sooner [] (mCons (mVar 8) (mCons (mVar 7) mNil)))) (mC .non))) (mRet (mDr (mC (.bl false)))) mSkip)
def kw9 : En → WS := (mLput [4, 3] 6 (mC (.int 0)) (mTup (mCons (mC (.str "a")) (mCons (mVar 4) (mCons (mC (.int 0)) (mCons (mTup (mCons (mDe (mOpR gAdd (mOp gSub (mVar 3) (mVar 4)) (mC (.int 1)))) (mCons (mVar 3) mNil))) mNil))))))
def kw10 : En → WS := (mPar [(7, [6, 3], (mMake "Plan" 3 sem_Plan___init__ [] (mCons (mVar 6) (mCons (mDe (mLst (mCons (mTup (mCons (mVar 3) (mCons (mC (.str "a")) (mCons (mC (.str "b")) mNil)))) (mCons (mTup (mCons (mDe (mOpR gAdd (mVar 3) (mC (.int 1)))) (mCons (mC (.str "b")) (mCons (mC (.str "c")) mNil)))) mNil)))) mNil)))), (8, [6], (mMake "Plan" 3 sem_Plan___init__ [] (mCons (mVar 6) (mCons (mDe (mLst mNil)) mNil))))])
def kw11 : En → WS := (mIf (mOr (mTest (mOp (gIsB true) (mDe (mCall 2 sem_alike [] (mCons (mVar 7) (mCons (mVar 8) mNil)))) (mC (.bl true)))) (mOr (mTest (mOp (gIs true) (mDe (mCall 2 sem_sooner [] (mCons (mVar 7) (mCons (mVar 8) mNil)))) (mC .non))) (mTest (mOp (gIsB true) (mDe (mCall 2 sem_never_sooner [] (mCons (mVar 7) (mCons (mVar 8) mNil)))) (mC (.bl true)))))) (mRet (mDr (mC (.bl false)))) mSkip)
def kw12 : En → WS := (mLput [4, 3] 6 (mC (.int 0)) (mTup (mCons (mC (.str "a")) (mCons (mVar 4) (mCons (mC (.int 0)) (mCons (mTup (mCons (mC (.int 0)) (mCons (mOp gSub (mVar 3) (mVar 4)) mNil))) mNil))))))
def kw13 : En → WS := (mPar [(7, [6, 3], (mMake "Plan" 3 sem_Plan___init__ [] (mCons (mVar 6) (mCons (mDe (mLst (mCons (mTup (mCons (mVar 3) (mCons (mC (.str "a")) (mCons (mC (.str "b")) mNil)))) mNil))) mNil)))), (8, [6, 3], (mMake "Plan" 3 sem_Plan___init__ [] (mCons (mVar 6) (mCons (mDe (mLst (mCons (mTup (mCons (mVar 3) (mCons (mC (.str "a")) (mCons (mC (.str "b")) mNil)))) (mCons (mTup (mCons (mOp gSub (mVar 3) (mC (.int 1))) (mCons (mC (.str "b")) (mCons (mC (.str "a")) mNil)))) mNil)))) mNil))))])
def kw14 : En → WS := (mIf (mOr (mTest (mOp (gIsB true) (mDe (mCall 2 sem_never_sooner [] (mCons (mVar 7) (mCons (mVar 8) mNil)))) (mC (.bl true)))) (mTest (mOp (gIsB true) (mDe (mCall 2 sem_never_sooner [] (mCons (mVar 8) (mCons (mVar 7) mNil)))) (mC (.bl false))))) (mRet (mDr (mC (.bl false)))) mSkip)
def kw15 : En → WS := (mSet [8, 7] 9 (mCall 2 sem_sooner [] (mCons (mVar 8) (mCons (mVar 7) mNil))))
def kw16 : En → WS := (mIf (mOr (mTest (mOp (gEq true) (mOp gIx (mVar 9) (mC (.int 1))) (mC (.str "b")))) (mOr (mTest (mOp (gEq true) (mOp gIx (mOp gIx (mOp gIx (mVar 9) (mC (.int 0))) (mC (.int 0))) (mC (.int 0))) (mC (.str "a")))) (mTest (mOp gGt (mOp gIx (mOp gIx (mOp gIx (mVar 9) (mC (.int 0))) (mC (.int 0))) (mC (.int 1))) (mOp gSub (mOp gSub (mVar 3) (mVar 4)) (mC (.int 1))))))) (mRet (mDr (mC (.bl false)))) mSkip)
def kw17 : En → WS := (mLput [4, 3] 6 (mC (.int 0)) (mTup (mCons (mC (.str "a")) (mCons (mVar 4) (mCons (mC (.int 0)) (mCons (mTup (mCons (mOp gSub (mVar 3) (mVar 4)) (mCons (mVar 3) mNil))) mNil))))))
def kw18 : En → WS := (mPar [(7, [6, 3], (mMake "Plan" 3 sem_Plan___init__ [] (mCons (mVar 6) (mCons (mDe (mLst (mCons (mTup (mCons (mVar 3) (mCons (mC (.str "a")) (mCons (mC (.str "b")) mNil)))) mNil))) mNil)))), (8, [6, 3], (mMake "Plan" 3 sem_Plan___init__ [] (mCons (mVar 6) (mCons (mDe (mLst (mCons (mTup (mCons (mVar 3) (mCons (mC (.str "b")) (mCons (mC (.str "a")) mNil)))) (mCons (mTup (mCons (mOp gSub (mVar 3) (mC (.int 1))) (mCons (mC (.str "b")) (mCons (mC (.str "a")) mNil)))) mNil)))) mNil))))])
def kw19 : En → WS := (mIf (mOr (mTest (mOp (gIsB true) (mDe (mCall 2 sem_alike [] (mCons (mVar 7) (mCons (mVar 8) mNil)))) (mC (.bl true)))) (mTest (mOp (gIs true) (mDe (mCall 2 sem_sooner [] (mCons (mVar 8) (mCons (mVar 7) mNil)))) (mC .non)))) (mRet (mDr (mC (.bl false)))) mSkip)
def kw20 : En → WS := (mIf (mNot (mTest (mDe (mCall 2 sem_alike [] (mCons (mDe (mMake "Plan" 3 sem_Plan___init__ [.tup []] (mCons (mDe (mLst (mCons (mTup (mCons (mC (.str "a")) (mCons (mC (.int 1)) (mCons (mC (.int 0)) (mCons (mC .non) mNil))))) mNil))) mNil))) (mCons (mDe (mMake "Plan" 3 sem_Plan___init__ [.tup []] (mCons (mDe (mLst (mCons (mTup (mCons (mC (.str "a")) (mCons (mC (.int 1)) (mCons (mC (.int 0)) (mCons (mC .non) mNil))))) mNil))) mNil))) mNil)))))) (mRet (mDr (mC (.bl false)))) mSkip)
def kt0 : En → WS := (mRet (mDr (mC (.bl true))))

theorem kw3_eq (q : Bool) (s d1 : D) {far late i : Int} (n : Num far late i) (x6 x7 x8 x9 : D) :
    kw3 (K s d1 far late (far - late - i) [sl q true x6, sl q false x7, sl q false x8, sl q false x9]) = W.ret (.nx, K s d1 far late (far - late - i) [some (true, crowd late (far - late - i) far), sl q false x7, sl q false x8, sl q false x9]) := by
  cases q <;> rfl
theorem kw4_eq (q : Bool) (s d1 : D) {far late i : Int} (n : Num far late i) (x7 x8 x9 : D) :
    kw4 (K s d1 far late (far - late - i) [some (true, crowd late (far - late - i) far), sl q false x7, sl q false x8, sl q false x9]) = W.ret (.nx, K s d1 far late (far - late - i) [some (true, crowd late (far - late - i) far), some (false, plD (P1 far late i)), some (false, plD (Q1 far late i)), sl q false x9]) := by
  refine (par2_eq (r := (false, plD (P1 far late i))) (r' := (false, plD (Q1 far late i))) (make_eq (P1 far late i) (t1 n).p false false ?_) (make_eq (Q1 far late i) (t1 n).q false false ?_)).trans ?_
  · cases q <;> rfl
  · cases q <;> rfl
  · rw [asg_imm (r := (false, plD (P1 far late i))) rfl, asg_imm (r := (false, plD (Q1 far late i))) rfl]
    cases q <;> rfl
theorem kw5_eq (q : Bool) (s d1 : D) {far late i : Int} (n : Num far late i) (x9 : D) :
    kw5 (K s d1 far late (far - late - i) [some (true, crowd late (far - late - i) far), some (false, plD (P1 far late i)), some (false, plD (Q1 far late i)), sl q false x9]) = W.ret (.nx, K s d1 far late (far - late - i) [some (true, crowd late (far - late - i) far), some (false, plD (P1 far late i)), some (false, plD (Q1 far late i)), sl q false x9]) := by
  refine if_eq false (or_eq false false (test_eq false (op_eq (a := .bl true) (b := .bl true) (de_eq (b := false) (call_eq (ds := [plD (Q1 far late i), plD (P1 far late i)]) ?_ rfl (A1 n))) rfl rfl)) fun _ => (or_eq false false (test_eq false (op_eq (a := .bl false) (b := .bl false) (de_eq (b := false) (call_eq (ds := [plD (P1 far late i), plD (Q1 far late i)]) ?_ rfl (B1 n))) rfl rfl)) fun _ => (test_eq false (de_eq (b := false) (call_eq (ds := [plD (P1 far late i), plD (Q1 far late i)]) ?_ rfl (C1 n))))))
  all_goals (first | rfl | (cases q <;> rfl))
theorem kw6_eq (q : Bool) (s d1 : D) {far late i : Int} (n : Num far late i) (x9 : D) :
    kw6 (K s d1 far late (far - late - i) [some (true, crowd late (far - late - i) far), some (false, plD (P1 far late i)), some (false, plD (Q1 far late i)), sl q false x9]) = W.ret (.nx, K s d1 far late (far - late - i) [some (true, crowd late (far - late - i) far), some (false, plD (P1 far late i)), some (false, plD (Q1 far late i)), some (false, hitD "a" (far - late - i) "c")]) := by
  refine set_eq (call_eq (ds := [plD (P1 far late i), plD (Q1 far late i)]) ?_ rfl (E1 n)) ((asg_imm (r := (false, hitD "a" (far - late - i) "c")) rfl).trans ?_)
  all_goals (first | rfl | (cases q <;> rfl))
theorem kw7_eq (q : Bool) (s d1 : D) {far late i : Int} (n : Num far late i)  :
    kw7 (K s d1 far late (far - late - i) [some (true, crowd late (far - late - i) far), some (false, plD (P1 far late i)), some (false, plD (Q1 far late i)), some (false, hitD "a" (far - late - i) "c")]) = W.ret (.nx, K s d1 far late (far - late - i) [some (true, crowd late (far - late - i) far), some (false, plD (P1 far late i)), some (false, plD (Q1 far late i)), some (false, hitD "a" (far - late - i) "c")]) := by
  have h1 := n.i0
  have h2 := n.l1
  have h3 := n.l2
  have h4 := n.f
  refine if_eq false (or_eq false false (test_eq false (op_eq (a := .str "c") (b := .str "c") rfl rfl ?_)) fun _ => or_eq false false (test_eq false (op_eq (a := .str "a") (b := .str "a") rfl rfl ?_)) fun _ => not_eq true (test_eq true ?_))
  · rw [eq_str true (name_strOk (by decide)) (name_strOk (by decide)), beq_self_eq_true]; rfl
  · rw [eq_str true (name_strOk (by decide)) (name_strOk (by decide)), beq_self_eq_true]; rfl
  · show (if decide (far - late - i ≤ far - late - i) = true then W.ret (D.bl (decide (far - late - i ≤ far - late))) else W.ret (D.bl false)) = _
    rw [decide_eq_true (Int.le_refl _), decide_eq_true (show far - late - i ≤ far - late by omega)]; rfl
theorem kw8_eq (q : Bool) (s d1 : D) {far late i : Int} (n : Num far late i)  :
    kw8 (K s d1 far late (far - late - i) [some (true, crowd late (far - late - i) far), some (false, plD (P1 far late i)), some (false, plD (Q1 far late i)), some (false, hitD "a" (far - late - i) "c")]) = W.ret (.nx, K s d1 far late (far - late - i) [some (true, crowd late (far - late - i) far), some (false, plD (P1 far late i)), some (false, plD (Q1 far late i)), some (false, hitD "a" (far - late - i) "c")]) := by
  refine if_eq false (test_eq false (op_eq (a := .non) (b := .non) (de_eq (b := false) (call_eq (ds := [plD (Q1 far late i), plD (P1 far late i)]) ?_ rfl (G1 n))) rfl rfl))
  all_goals (first | rfl | (cases q <;> rfl))
theorem kw9_eq (q : Bool) (s d1 : D) {far late i : Int} (n : Num far late i)  :
    kw9 (K s d1 far late (far - late - i) [some (true, crowd late (far - late - i) far), some (false, plD (P1 far late i)), some (false, plD (Q1 far late i)), some (false, hitD "a" (far - late - i) "c")]) = W.ret (.nx, K s d1 far late (far - late - i) [some (true, crowd late (far - late + 1) far), some (false, plD (P1 far late i)), some (false, plD (Q1 far late i)), some (false, hitD "a" (far - late - i) "c")]) := by
  exact (lput_eq (ds := (pp _ _ _).map perD) (j := 0) rfl rfl rfl rfl rfl).trans rfl
theorem kw10_eq (q : Bool) (s d1 : D) {far late i : Int} (n : Num far late i)  :
    kw10 (K s d1 far late (far - late - i) [some (true, crowd late (far - late + 1) far), some (false, plD (P1 far late i)), some (false, plD (Q1 far late i)), some (false, hitD "a" (far - late - i) "c")]) = W.ret (.nx, K s d1 far late (far - late - i) [some (true, crowd late (far - late + 1) far), some (false, plD (P2 far late)), some (false, plD (Q2 far late)), some (false, hitD "a" (far - late - i) "c")]) := by
  refine (par2_eq (r := (false, plD (P2 far late))) (r' := (false, plD (Q2 far late))) (make_eq (P2 far late) (t2 n).p false false ?_) (make_eq (Q2 far late) (t2 n).q false false ?_)).trans ?_
  · rfl
  · rfl
  · rw [asg_imm (r := (false, plD (P2 far late))) rfl, asg_imm (r := (false, plD (Q2 far late))) rfl]
    rfl
theorem kw11_eq (q : Bool) (s d1 : D) {far late i : Int} (n : Num far late i)  :
    kw11 (K s d1 far late (far - late - i) [some (true, crowd late (far - late + 1) far), some (false, plD (P2 far late)), some (false, plD (Q2 far late)), some (false, hitD "a" (far - late - i) "c")]) = W.ret (.nx, K s d1 far late (far - late - i) [some (true, crowd late (far - late + 1) far), some (false, plD (P2 far late)), some (false, plD (Q2 far late)), some (false, hitD "a" (far - late - i) "c")]) := by
  refine if_eq false (or_eq false false (test_eq false (op_eq (a := .bl true) (b := .bl true) (de_eq (b := false) (call_eq (ds := [plD (P2 far late), plD (Q2 far late)]) ?_ rfl (A2 n))) rfl rfl)) fun _ => (or_eq false false (test_eq false (op_eq (a := .non) (b := .non) (de_eq (b := false) (call_eq (ds := [plD (P2 far late), plD (Q2 far late)]) ?_ rfl (B2 n))) rfl rfl)) fun _ => (test_eq false (op_eq (a := .bl true) (b := .bl true) (de_eq (b := false) (call_eq (ds := [plD (P2 far late), plD (Q2 far late)]) ?_ rfl (C2 n))) rfl rfl))))
  all_goals (first | rfl | (cases q <;> rfl))
theorem kw12_eq (q : Bool) (s d1 : D) {far late i : Int} (n : Num far late i)  :
    kw12 (K s d1 far late (far - late - i) [some (true, crowd late (far - late + 1) far), some (false, plD (P2 far late)), some (false, plD (Q2 far late)), some (false, hitD "a" (far - late - i) "c")]) = W.ret (.nx, K s d1 far late (far - late - i) [some (true, crowd late 0 (far - late)), some (false, plD (P2 far late)), some (false, plD (Q2 far late)), some (false, hitD "a" (far - late - i) "c")]) := by
  exact (lput_eq (ds := (pp _ _ _).map perD) (j := 0) rfl rfl rfl rfl rfl).trans rfl
theorem kw13_eq (q : Bool) (s d1 : D) {far late i : Int} (n : Num far late i)  :
    kw13 (K s d1 far late (far - late - i) [some (true, crowd late 0 (far - late)), some (false, plD (P2 far late)), some (false, plD (Q2 far late)), some (false, hitD "a" (far - late - i) "c")]) = W.ret (.nx, K s d1 far late (far - late - i) [some (true, crowd late 0 (far - late)), some (false, plD (P3 far late)), some (false, plD (Q3 far late)), some (false, hitD "a" (far - late - i) "c")]) := by
  refine (par2_eq (r := (false, plD (P3 far late))) (r' := (false, plD (Q3 far late))) (make_eq (P3 far late) (t3 n).p false false ?_) (make_eq (Q3 far late) (t3 n).q false false ?_)).trans ?_
  · rfl
  · rfl
  · rw [asg_imm (r := (false, plD (P3 far late))) rfl, asg_imm (r := (false, plD (Q3 far late))) rfl]
    rfl
theorem kw14_eq (q : Bool) (s d1 : D) {far late i : Int} (n : Num far late i)  :
    kw14 (K s d1 far late (far - late - i) [some (true, crowd late 0 (far - late)), some (false, plD (P3 far late)), some (false, plD (Q3 far late)), some (false, hitD "a" (far - late - i) "c")]) = W.ret (.nx, K s d1 far late (far - late - i) [some (true, crowd late 0 (far - late)), some (false, plD (P3 far late)), some (false, plD (Q3 far late)), some (false, hitD "a" (far - late - i) "c")]) := by
  refine if_eq false (or_eq false false (test_eq false (op_eq (a := .bl true) (b := .bl true) (de_eq (b := false) (call_eq (ds := [plD (P3 far late), plD (Q3 far late)]) ?_ rfl (A3 n))) rfl rfl)) fun _ => (test_eq false (op_eq (a := .bl false) (b := .bl false) (de_eq (b := false) (call_eq (ds := [plD (Q3 far late), plD (P3 far late)]) ?_ rfl (B3 n))) rfl rfl)))
  all_goals (first | rfl | (cases q <;> rfl))
theorem kw15_eq (q : Bool) (s d1 : D) {far late i : Int} (n : Num far late i)  :
    kw15 (K s d1 far late (far - late - i) [some (true, crowd late 0 (far - late)), some (false, plD (P3 far late)), some (false, plD (Q3 far late)), some (false, hitD "a" (far - late - i) "c")]) = W.ret (.nx, K s d1 far late (far - late - i) [some (true, crowd late 0 (far - late)), some (false, plD (P3 far late)), some (false, plD (Q3 far late)), some (false, hitD "a" 0 "b")]) := by
  refine set_eq (call_eq (ds := [plD (Q3 far late), plD (P3 far late)]) ?_ rfl (C3 n)) ((asg_imm (r := (false, hitD "a" 0 "b")) rfl).trans ?_)
  all_goals (first | rfl | (cases q <;> rfl))
theorem kw16_eq (q : Bool) (s d1 : D) {far late i : Int} (n : Num far late i)  :
    kw16 (K s d1 far late (far - late - i) [some (true, crowd late 0 (far - late)), some (false, plD (P3 far late)), some (false, plD (Q3 far late)), some (false, hitD "a" 0 "b")]) = W.ret (.nx, K s d1 far late (far - late - i) [some (true, crowd late 0 (far - late)), some (false, plD (P3 far late)), some (false, plD (Q3 far late)), some (false, hitD "a" 0 "b")]) := by
  have h1 := n.i0
  have h2 := n.l1
  have h3 := n.l2
  have h4 := n.f
  refine if_eq false (or_eq false false (test_eq false (op_eq (a := .str "b") (b := .str "b") rfl rfl ?_)) fun _ => or_eq false false (test_eq false (op_eq (a := .str "a") (b := .str "a") rfl rfl ?_)) fun _ => test_eq false ?_)
  · rw [eq_str true (name_strOk (by decide)) (name_strOk (by decide)), beq_self_eq_true]; rfl
  · rw [eq_str true (name_strOk (by decide)) (name_strOk (by decide)), beq_self_eq_true]; rfl
  · show W.ret (D.bl (decide (far - late - 1 < 0))) = _
    rw [decide_eq_false (show ¬ far - late - 1 < 0 by omega)]
theorem kw17_eq (q : Bool) (s d1 : D) {far late i : Int} (n : Num far late i)  :
    kw17 (K s d1 far late (far - late - i) [some (true, crowd late 0 (far - late)), some (false, plD (P3 far late)), some (false, plD (Q3 far late)), some (false, hitD "a" 0 "b")]) = W.ret (.nx, K s d1 far late (far - late - i) [some (true, crowd late (far - late) far), some (false, plD (P3 far late)), some (false, plD (Q3 far late)), some (false, hitD "a" 0 "b")]) := by
  exact (lput_eq (ds := (pp _ _ _).map perD) (j := 0) rfl rfl rfl rfl rfl).trans rfl
theorem kw18_eq (q : Bool) (s d1 : D) {far late i : Int} (n : Num far late i)  :
    kw18 (K s d1 far late (far - late - i) [some (true, crowd late (far - late) far), some (false, plD (P3 far late)), some (false, plD (Q3 far late)), some (false, hitD "a" 0 "b")]) = W.ret (.nx, K s d1 far late (far - late - i) [some (true, crowd late (far - late) far), some (false, plD (P4 far late)), some (false, plD (Q4 far late)), some (false, hitD "a" 0 "b")]) := by
  refine (par2_eq (r := (false, plD (P4 far late))) (r' := (false, plD (Q4 far late))) (make_eq (P4 far late) (t4 n).p false false ?_) (make_eq (Q4 far late) (t4 n).q false false ?_)).trans ?_
  · rfl
  · rfl
  · rw [asg_imm (r := (false, plD (P4 far late))) rfl, asg_imm (r := (false, plD (Q4 far late))) rfl]
    rfl
theorem kw19_eq (q : Bool) (s d1 : D) {far late i : Int} (n : Num far late i)  :
    kw19 (K s d1 far late (far - late - i) [some (true, crowd late (far - late) far), some (false, plD (P4 far late)), some (false, plD (Q4 far late)), some (false, hitD "a" 0 "b")]) = W.ret (.nx, K s d1 far late (far - late - i) [some (true, crowd late (far - late) far), some (false, plD (P4 far late)), some (false, plD (Q4 far late)), some (false, hitD "a" 0 "b")]) := by
  refine if_eq false (or_eq false false (test_eq false (op_eq (a := .bl true) (b := .bl true) (de_eq (b := false) (call_eq (ds := [plD (P4 far late), plD (Q4 far late)]) ?_ rfl (A4 n))) rfl rfl)) fun _ => (test_eq false (op_eq (a := .non) (b := .non) (de_eq (b := false) (call_eq (ds := [plD (Q4 far late), plD (P4 far late)]) ?_ rfl (B4 n))) rfl rfl)))
  all_goals (first | rfl | (cases q <;> rfl))
theorem kw20_eq (q : Bool) (s d1 : D) {far late i : Int} (n : Num far late i)  :
    kw20 (K s d1 far late (far - late - i) [some (true, crowd late (far - late) far), some (false, plD (P4 far late)), some (false, plD (Q4 far late)), some (false, hitD "a" 0 "b")]) = W.ret (.nx, K s d1 far late (far - late - i) [some (true, crowd late (far - late) far), some (false, plD (P4 far late)), some (false, plD (Q4 far late)), some (false, hitD "a" 0 "b")]) := by
  refine if_eq false (not_eq true (test_eq true (de_eq (b := false) (call_eq (ds := [plD P5, plD P5]) (cons_eq (de_eq (b := false) (make1_eq P5 ok5 false rfl rfl)) (cons_eq (de_eq (b := false) (make1_eq P5 ok5 false rfl rfl)) rfl)) rfl A5))))
end FbL
end

section
set_option Elab.async false
set_option linter.all false
set_option maxRecDepth 100000
set_option maxHeartbeats 1000000
namespace FbL
open PySem PySem.Spec PyProof.Rows L2 Fb
theorem call_un {n : Nat} {sem : List D → Rt} {m : Ro → W Ex (List D)} {ρ : Ro} {ds : List D} (hm : m ρ = W.ret ds) (hn : ds.length = n) : mCall n sem [] m ρ = sem ds := by
  show W.bind (m ρ) (fun ds => if (ds ++ []).length = n then sem (ds ++ []) else W.fail) = _
  rw [hm]
  show (if (ds ++ []).length = n then sem (ds ++ []) else W.fail) = _
  rw [List.append_nil, if_pos hn]
theorem bindrun {ε α β : Type} {m : W ε α} {k : α → W ε β} {Q : β → Prop} {E : ε → Prop} (h : m (fun a => k a Q E) E) : W.bind m k Q E := h
theorem uprun {α : Type} {ρ : En} {m : W Ex α} {Q : α → Prop} {E : Ex × En → Prop} (h : m Q (fun x => E (x, ρ))) : up ρ m Q E := h
theorem choose_eq {m : Int} (h : 0 < m ∧ m < 1073741824) (Q : Bool × D → Prop) (E : Ex → Prop) (q : ∀ r : Int, 0 ≤ r → r < m → Q (false, .int r)) : sem__law_choose [.box 1, .int m] Q E := ⟨h.1, h.2, q⟩
theorem rng1_eq {n : Nat} (h : n ≤ 1000) : rng1D [.int n] = W.ret (rngD 0 n) := by
  have : rng1D [.int n] = if -2 ^ 62 ≤ (n : Int) ∧ (n : Int) < 2 ^ 62 then W.ret (rngD 0 (n : Int).toNat) else W.fail := by unfold rng1D; rfl
  rw [this, if_pos (by omega), Int.toNat_natCast]
theorem count_eq (ns : List Int) (hl : ns.length ≤ 63) (ρ : Ro) (h0 : mVar 0 ρ = W.ret (.scr ns)) : ∃ m : Nat, m ≤ 4 ∧ (mRng1 (mCons (mDe (mBlt (gMM true) (mCons (mC (.int 1)) (mCons (mDe (mBlt (gMM false) (mCons (mC (.int 4)) (mCons (mDe (mBlt (g1 lenD) (mCons (mVar 0) mNil))) mNil)))) mNil)))) mNil)) ρ = W.ret (rngD 0 m) := by
  have hlen : (mDe (mBlt (g1 lenD) (mCons (mVar 0) mNil))) ρ = W.ret (.int ns.length) := len_eq h0 rfl
  have e1 : (mDe (mBlt (gMM false) (mCons (mC (.int 4)) (mCons (mDe (mBlt (g1 lenD) (mCons (mVar 0) mNil))) mNil)))) ρ = W.ret (.int (if (ns.length : Int) < 4 then ns.length else 4)) := de_eq (b := false) (blt_eq (ds := [.int 4, .int ns.length]) (cons_eq rfl (cons_eq hlen rfl)) rfl)
  have e2 : (mDe (mBlt (gMM true) (mCons (mC (.int 1)) (mCons (mDe (mBlt (gMM false) (mCons (mC (.int 4)) (mCons (mDe (mBlt (g1 lenD) (mCons (mVar 0) mNil))) mNil)))) mNil)))) ρ = W.ret (.int (if (if (ns.length : Int) < 4 then (ns.length : Int) else 4) > 1 then (if (ns.length : Int) < 4 then (ns.length : Int) else 4) else 1)) := de_eq (b := false) (blt_eq (ds := [.int 1, .int (if (ns.length : Int) < 4 then ns.length else 4)]) (cons_eq rfl (cons_eq e1 rfl)) rfl)
  have hm : ∃ m : Nat, m ≤ 4 ∧ (if (if (ns.length : Int) < 4 then (ns.length : Int) else 4) > 1 then (if (ns.length : Int) < 4 then (ns.length : Int) else 4) else 1) = (m : Int) := by
    by_cases h4 : (ns.length : Int) < 4
    · rw [if_pos h4]
      by_cases h1 : (ns.length : Int) > 1
      · rw [if_pos h1]; exact ⟨ns.length, by omega, rfl⟩
      · rw [if_neg h1]; exact ⟨1, by omega, rfl⟩
    · rw [if_neg h4, if_pos (by decide)]; exact ⟨4, by omega, rfl⟩
  obtain ⟨m, hm4, hm⟩ := hm
  rw [hm] at e2
  refine ⟨m, hm4, ?_⟩
  show W.bind ((mCons (mDe (mBlt (gMM true) (mCons (mC (.int 1)) (mCons (mDe (mBlt (gMM false) (mCons (mC (.int 4)) (mCons (mDe (mBlt (g1 lenD) (mCons (mVar 0) mNil))) mNil)))) mNil)))) mNil) ρ) rng1D = _
  rw [cons_eq e2 (show mNil ρ = W.ret [] from rfl), rb]
  exact rng1_eq (by omega)

theorem drawAdd {m : Ro → W Ex D} {a : Ro → W Ex (List D)} {ρ : Ro} {c k : Int} (hm : m ρ = W.ret (.int c)) (ha : a ρ = W.ret [.box 1, .int k]) (hk : 0 < k ∧ k < 1073741824) (Q : Bool × D → Prop) (E : Ex → Prop) (q : ∀ r : Int, 0 ≤ r → r < k → Q (false, .int (c + r))) : (mOpR gAdd m (mDe (mCall 2 sem__law_choose [] a))) ρ Q E := by
  show (W.bind (m ρ) (fun a' => W.bind (W.bind ((mCall 2 sem__law_choose [] a) ρ) fun r => W.ret r.2) fun b => W.calm (gAdd a' b))) Q E
  have e : (mCall 2 sem__law_choose [] a) ρ = sem__law_choose [.box 1, .int k] := call_un ha rfl
  rw [hm, e]
  exact bindrun (bindrun (bindrun (choose_eq hk _ _ fun r h0 h1 => q r h0 h1)))
theorem drawSub {m : Ro → W Ex D} {a : Ro → W Ex (List D)} {ρ : Ro} {c k : Int} (hm : m ρ = W.ret (.int c)) (ha : a ρ = W.ret [.box 1, .int k]) (hk : 0 < k ∧ k < 1073741824) (Q : Bool × D → Prop) (E : Ex → Prop) (q : ∀ r : Int, 0 ≤ r → r < k → Q (false, .int (c - r))) : (mDr (mOp gSub m (mDe (mCall 2 sem__law_choose [] a)))) ρ Q E := by
  show (W.bind (W.bind (m ρ) (fun a' => W.bind (W.bind ((mCall 2 sem__law_choose [] a) ρ) fun r => W.ret r.2) fun b => W.calm (gSub a' b))) fun d => W.ret (false, d)) Q E
  have e : (mCall 2 sem__law_choose [] a) ρ = sem__law_choose [.box 1, .int k] := call_un ha rfl
  rw [hm, e]
  exact bindrun (bindrun (bindrun (bindrun (choose_eq hk _ _ fun r h0 h1 => q r h0 h1))))
abbrev T0 (q : Bool) (s : D) (o1 : Option (Bool × D)) (X : Nat → D) : En := [some (false, s), o1, sl q false (X 2), sl q false (X 3), sl q false (X 4), sl q false (X 5), sl q true (X 6), sl q false (X 7), sl q false (X 8), sl q false (X 9)]
def kwR : En → WS := (mSeq kw3 (mSeq kw4 (mSeq kw5 (mSeq kw6 (mSeq kw7 (mSeq kw8 (mSeq kw9 (mSeq kw10 (mSeq kw11 (mSeq kw12 (mSeq kw13 (mSeq kw14 (mSeq kw15 (mSeq kw16 (mSeq kw17 (mSeq kw18 (mSeq kw19 kw20)))))))))))))))))
theorem rest_eq (q : Bool) (s d1 : D) {far late i : Int} (n : Num far late i) (X : Nat → D) :
    ∃ Y, kwR (K s d1 far late (far - late - i) [sl q true (X 6), sl q false (X 7), sl q false (X 8), sl q false (X 9)]) = W.ret (.nx, T0 true s (some (false, d1)) Y) := by
  refine ⟨fun j => match j with
    | 2 => .box 1 | 3 => .int far | 4 => .int late | 5 => .int (far - late - i) | 6 => crowd late (far - late) far
    | 7 => plD (P4 far late) | 8 => plD (Q4 far late) | 9 => hitD "a" 0 "b" | _ => .non, ?_⟩
  refine (seq_nx (kw3_eq q s d1 n (X 6) (X 7) (X 8) (X 9))).trans ?_
  refine (seq_nx (kw4_eq q s d1 n (X 7) (X 8) (X 9))).trans ?_
  refine (seq_nx (kw5_eq q s d1 n (X 9))).trans ?_
  refine (seq_nx (kw6_eq q s d1 n (X 9))).trans ?_
  refine (seq_nx (kw7_eq q s d1 n )).trans ?_
  refine (seq_nx (kw8_eq q s d1 n )).trans ?_
  refine (seq_nx (kw9_eq q s d1 n )).trans ?_
  refine (seq_nx (kw10_eq q s d1 n )).trans ?_
  refine (seq_nx (kw11_eq q s d1 n )).trans ?_
  refine (seq_nx (kw12_eq q s d1 n )).trans ?_
  refine (seq_nx (kw13_eq q s d1 n )).trans ?_
  refine (seq_nx (kw14_eq q s d1 n )).trans ?_
  refine (seq_nx (kw15_eq q s d1 n )).trans ?_
  refine (seq_nx (kw16_eq q s d1 n )).trans ?_
  refine (seq_nx (kw17_eq q s d1 n )).trans ?_
  refine (seq_nx (kw18_eq q s d1 n )).trans ?_
  refine (seq_nx (kw19_eq q s d1 n )).trans ?_
  exact kw20_eq q s d1 n 
def kwT : En → WS := mSeq kw0 (mSeq kw1 (mSeq kw2 kwR))
theorem turn_sem (q : Bool) (ns : List Int) (hl : ns.length ≤ 63) (k : Int) (h0 : 0 ≤ k) (h1 : k < 1000) (X : Nat → D) {Q : Fl × En → Prop} {E : Ex × En → Prop} (h : ∀ Y, Q (.nx, T0 true (.scr ns) (some (false, .int k)) Y)) : kwT (T0 q (.scr ns) (some (false, .int k)) X) Q E := by
  have e0 : kw0 (T0 q (.scr ns) (some (false, .int k)) X) = W.ret (.nx, [some (false, .scr ns), some (false, .int k), some (false, .box 1), sl q false (X 3), sl q false (X 4), sl q false (X 5), sl q true (X 6), sl q false (X 7), sl q false (X 8), sl q false (X 9)]) := by
    have c : sem__law_seed [.scr ns, .int k] = W.ret (false, .box 1) := if_pos ⟨hl, h0, h1⟩
    refine set_eq (r := (false, .box 1)) (call_eq (ds := [.scr ns, .int k]) ?_ rfl c) ((asg_imm (r := (false, .box 1)) rfl).trans ?_)
    · cases q <;> rfl
    · cases q <;> rfl
  show mSeq kw0 (mSeq kw1 (mSeq kw2 kwR)) (T0 q (.scr ns) (some (false, .int k)) X) Q E
  rw [seq_nx e0]
  show (W.bind (W.bind (W.bind (up [some (false, .scr ns), some (false, .int k), some (false, .box 1), sl q false (X 3), sl q false (X 4), sl q false (X 5), sl q true (X 6), sl q false (X 7), sl q false (X 8), sl q false (X 9)] ((mOpR gAdd (mOp gPow (mC (.int 10)) (mC (.int 17))) (mDe (mCall 2 sem__law_choose [] (mCons (mVar 2) (mCons (mOp gPow (mC (.int 10)) (mC (.int 6))) mNil))))) (see [2] [some (false, .scr ns), some (false, .int k), some (false, .box 1), sl q false (X 3), sl q false (X 4), sl q false (X 5), sl q true (X 6), sl q false (X 7), sl q false (X 8), sl q false (X 9)]))) fun x => W.bind (up [some (false, .scr ns), some (false, .int k), some (false, .box 1), sl q false (X 3), sl q false (X 4), sl q false (X 5), sl q true (X 6), sl q false (X 7), sl q false (X 8), sl q false (X 9)] ((mOpR gAdd (mC (.int 1)) (mDe (mCall 2 sem__law_choose [] (mCons (mVar 2) (mCons (mOp gPow (mC (.int 10)) (mC (.int 9))) mNil))))) (wipeR (see [2] (asg [2] 3 x [some (false, .scr ns), some (false, .int k), some (false, .box 1), sl q false (X 3), sl q false (X 4), sl q false (X 5), sl q true (X 6), sl q false (X 7), sl q false (X 8), sl q false (X 9)])) [3]))) fun y => W.ret (asg [2] 4 y (asg [2] 3 x [some (false, .scr ns), some (false, .int k), some (false, .box 1), sl q false (X 3), sl q false (X 4), sl q false (X 5), sl q true (X 6), sl q false (X 7), sl q false (X 8), sl q false (X 9)]))) (fun ρ' => W.ret (Fl.nx, ρ'))) (andThen (mSeq kw2 kwR))) Q E
  refine bindrun (bindrun (bindrun (uprun (drawAdd (c := 100000000000000000) (k := 1000000) rfl ?_ ⟨by decide, by decide⟩ _ _ fun r1 r10 r11 => ?_))))
  · cases q <;> rfl
  rw [asg_imm (r := (false, .int (100000000000000000 + r1))) rfl]
  refine bindrun (uprun (drawAdd (c := 1) (k := 1000000000) rfl ?_ ⟨by decide, by decide⟩ _ _ fun r2 r20 r21 => ?_))
  · cases q <;> rfl
  rw [asg_imm (r := (false, .int (1 + r2))) rfl]
  generalize hfar : 100000000000000000 + r1 = far
  generalize hlate : 1 + r2 = late
  show (W.bind (W.bind (up [some (false, .scr ns), some (false, .int k), some (false, .box 1), some (false, .int far), some (false, .int late), sl q false (X 5), sl q true (X 6), sl q false (X 7), sl q false (X 8), sl q false (X 9)] ((mDr (mOp gSub (mOp gSub (mVar 3) (mVar 4)) (mDe (mCall 2 sem__law_choose [] (mCons (mVar 2) (mCons (mC (.int 5)) mNil)))))) (see [3, 4, 2] [some (false, .scr ns), some (false, .int k), some (false, .box 1), some (false, .int far), some (false, .int late), sl q false (X 5), sl q true (X 6), sl q false (X 7), sl q false (X 8), sl q false (X 9)]))) fun r => W.ret (.nx, asg [3, 4, 2] 5 r [some (false, .scr ns), some (false, .int k), some (false, .box 1), some (false, .int far), some (false, .int late), sl q false (X 5), sl q true (X 6), sl q false (X 7), sl q false (X 8), sl q false (X 9)])) (andThen kwR)) Q E
  refine bindrun (bindrun (uprun (drawSub (c := far - late) (k := 5) ?_ ?_ ⟨by decide, by decide⟩ _ _ fun i i0 i5 => ?_)))
  · cases q <;> rfl
  · cases q <;> rfl
  rw [asg_imm (r := (false, .int (far - late - i))) rfl]
  have n : Num far late i := ⟨by omega, by omega, by omega, i0, i5⟩
  obtain ⟨Y, e4⟩ := rest_eq q (.scr ns) (.int k) n X
  show kwR (K (.scr ns) (.int k) far late (far - late - i) [sl q true (X 6), sl q false (X 7), sl q false (X 8), sl q false (X 9)]) Q E
  rw [e4]
  exact h Y
theorem turns {ns : List Int} (hl : ns.length ≤ 63) {Q : Fl × En → Prop} {E : Ex × En → Prop} (h : ∀ q o1 X, Q (.nx, T0 q (.scr ns) o1 X)) : ∀ (ks : List Nat) (q : Bool) (o1 : Option (Bool × D)) (X : Nat → D), (∀ k ∈ ks, k < 1000) → forN (pName 1) kwT (ks.map fun k : Nat => D.int (0 + (k : Int))) (T0 q (.scr ns) o1 X) Q E
  | [], q, o1, X, _ => h q o1 X
  | k :: ks, q, o1, X, hk => by
    have hk1 := hk k List.mem_cons_self
    rw [List.map_cons]
    exact turn_sem q ns hl (0 + (k : Int)) (by omega) (by omega) X fun Y => turns hl h ks true (some (false, .int (0 + (k : Int)))) Y fun z hz => hk z (List.mem_cons_of_mem _ hz)
theorem law_true (ns : List Int) (h : ns.length ≤ 63) : sem_law [.scr ns] (fun r => r.2 = .bl true) fun _ => False := by
  show (mSeq (mFor [0] (mRng1 (mCons (mDe (mBlt (gMM true) (mCons (mC (.int 1)) (mCons (mDe (mBlt (gMM false) (mCons (mC (.int 4)) (mCons (mDe (mBlt (g1 lenD) (mCons (mVar 0) mNil))) mNil)))) mNil)))) mNil)) (pName 1) kwT) kt0) (initEn 10 [.scr ns]) _ _
  have ei : initEn 10 [.scr ns] = T0 false (.scr ns) none fun _ => .non := rfl
  rw [ei]
  obtain ⟨m, hm, e⟩ := count_eq ns h (see [0] (T0 false (.scr ns) none fun _ => .non)) rfl
  have ef : (mFor [0] (mRng1 (mCons (mDe (mBlt (gMM true) (mCons (mC (.int 1)) (mCons (mDe (mBlt (gMM false) (mCons (mC (.int 4)) (mCons (mDe (mBlt (g1 lenD) (mCons (mVar 0) mNil))) mNil)))) mNil)))) mNil)) (pName 1) kwT) (T0 false (.scr ns) none fun _ => .non) = forN (pName 1) kwT (rngD 0 m) (T0 false (.scr ns) none fun _ => .non) := (for_eq e).trans rfl
  unfold mSeq
  rw [ef]
  exact bindrun (turns h (fun q o1 X => rfl) (List.range m) false none _ fun k hk => by have := List.mem_range.mp hk; omega)
end FbL
end

section
set_option Elab.async false
set_option linter.all false
set_option maxRecDepth 100000
set_option maxHeartbeats 4000000
namespace FbL
open PySem PySem.Spec PyProof.Rows L2 Fb
def topS (i : Nat) : Stmt := PySem.Challenge.pw_firstbore_k46_plans_of_far_days_compared.main.body.getD i (.Pass ⟨0, 0, 0, 0⟩)
abbrev s__law_choose : Stmt := topS 38
abbrev s_is_integer : Stmt := topS 22
abbrev s_is_length : Stmt := topS 24
abbrev s_is_name : Stmt := topS 25
abbrev s_is_number : Stmt := topS 23
abbrev s_is_span : Stmt := topS 29
abbrev s_is_person : Stmt := topS 30
abbrev s_is_sequence : Stmt := topS 26
abbrev s_are_people : Stmt := topS 31
abbrev s_is_meeting : Stmt := topS 32
abbrev s_Plan___init__ : Stmt := inClass (topS 35) 0
abbrev s__law_seed : Stmt := topS 37
abbrev s_Plan_names : Stmt := inClass (topS 35) 1
abbrev s_is_earlier : Stmt := topS 13
abbrev s_need_same : Stmt := topS 10
abbrev s_passed : Stmt := topS 7
abbrev s_days_by : Stmt := topS 6
abbrev s_spans_of : Stmt := topS 8
abbrev s_turning_days : Stmt := topS 11
abbrev s_unlike_days : Stmt := topS 12
abbrev s_sooner : Stmt := topS 14
abbrev s_never_sooner : Stmt := topS 15
abbrev s_alike : Stmt := topS 16
abbrev s_law : Stmt := topS 39
structure Txt (G : Wd) (C ed : Addr) (a_Plan___init__ : Addr) (fd_Plan___init__ : FuncData) (a_Plan_names : Addr) (fd_Plan_names : FuncData) (q_Plan_names : Addr) : Prop where
  b_abs : G.mg "abs" = none
  b_all : G.mg "all" = none
  b_bool : G.mg "bool" = none
  b_int : G.mg "int" = none
  b_isinstance : G.mg "isinstance" = none
  b_len : G.mg "len" = none
  b_list : G.mg "list" = none
  b_max : G.mg "max" = none
  b_min : G.mg "min" = none
  b_range : G.mg "range" = none
  b_sorted : G.mg "sorted" = none
  b_str : G.mg "str" = none
  b_tuple : G.mg "tuple" = none
  c_LETTERS : ∃ t, G.mg "LETTERS" = some (.str "abcdefghijklmnopqrstuvwxyz" t)
  c_MOST_LETTERS : ∃ t, G.mg "MOST_LETTERS" = some (.int 4 t)
  f_is_integer : ∃ f fd, G.mg "is_integer" = some (.ref f) ∧ Fun G.K "is_integer" "is_integer" s_is_integer f fd
  f_is_length : ∃ f fd, G.mg "is_length" = some (.ref f) ∧ Fun G.K "is_length" "is_length" s_is_length f fd
  f_is_name : ∃ f fd, G.mg "is_name" = some (.ref f) ∧ Fun G.K "is_name" "is_name" s_is_name f fd
  f_is_number : ∃ f fd, G.mg "is_number" = some (.ref f) ∧ Fun G.K "is_number" "is_number" s_is_number f fd
  f_is_span : ∃ f fd, G.mg "is_span" = some (.ref f) ∧ Fun G.K "is_span" "is_span" s_is_span f fd
  f_is_person : ∃ f fd, G.mg "is_person" = some (.ref f) ∧ Fun G.K "is_person" "is_person" s_is_person f fd
  f_is_sequence : ∃ f fd, G.mg "is_sequence" = some (.ref f) ∧ Fun G.K "is_sequence" "is_sequence" s_is_sequence f fd
  f_are_people : ∃ f fd, G.mg "are_people" = some (.ref f) ∧ Fun G.K "are_people" "are_people" s_are_people f fd
  f_is_meeting : ∃ f fd, G.mg "is_meeting" = some (.ref f) ∧ Fun G.K "is_meeting" "is_meeting" s_is_meeting f fd
  f__law_seed : ∃ f fd, G.mg "_law_seed" = some (.ref f) ∧ Fun G.K "_law_seed" "_law_seed" s__law_seed f fd
  f_is_earlier : ∃ f fd, G.mg "is_earlier" = some (.ref f) ∧ Fun G.K "is_earlier" "is_earlier" s_is_earlier f fd
  f_need_same : ∃ f fd, G.mg "need_same" = some (.ref f) ∧ Fun G.K "need_same" "need_same" s_need_same f fd
  f_passed : ∃ f fd, G.mg "passed" = some (.ref f) ∧ Fun G.K "passed" "passed" s_passed f fd
  f_days_by : ∃ f fd, G.mg "days_by" = some (.ref f) ∧ Fun G.K "days_by" "days_by" s_days_by f fd
  f_spans_of : ∃ f fd, G.mg "spans_of" = some (.ref f) ∧ Fun G.K "spans_of" "spans_of" s_spans_of f fd
  f_turning_days : ∃ f fd, G.mg "turning_days" = some (.ref f) ∧ Fun G.K "turning_days" "turning_days" s_turning_days f fd
  f_unlike_days : ∃ f fd, G.mg "unlike_days" = some (.ref f) ∧ Fun G.K "unlike_days" "unlike_days" s_unlike_days f fd
  f_sooner : ∃ f fd, G.mg "sooner" = some (.ref f) ∧ Fun G.K "sooner" "sooner" s_sooner f fd
  f_never_sooner : ∃ f fd, G.mg "never_sooner" = some (.ref f) ∧ Fun G.K "never_sooner" "never_sooner" s_never_sooner f fd
  f_alike : ∃ f fd, G.mg "alike" = some (.ref f) ∧ Fun G.K "alike" "alike" s_alike f fd
  f__law_choose : ∃ f fd, G.mg "_law_choose" = some (.ref f) ∧ Fun G.K "_law_choose" "_law_choose" s__law_choose f fd
  f_law : ∃ f fd, G.mg "law" = some (.ref f) ∧ Fun G.K "law" "law" s_law f fd
  k_Plan : ClsD G "Plan" C
  n_Plan_people : NoAttr G.K C "people"
  n_Plan_meetings : NoAttr G.K C "meetings"
  f_Plan___init__ : FunI G.K "__init__" "Plan.__init__" s_Plan___init__ a_Plan___init__ fd_Plan___init__ ed
  mk_Plan : Mk G.K C a_Plan___init__
  f_Plan_names : Fun G.K "names" "Plan.names" s_Plan_names a_Plan_names fd_Plan_names
  p_Plan_names : PropOf G.K C "names" q_Plan_names a_Plan_names
section
variable {P : Program} {w : World} {G : Wd} {base : Heap} {C ed a_Plan___init__ a_Plan_names q_Plan_names : Addr} {fd_Plan___init__ fd_Plan_names : FuncData}
abbrev N__law_choose : List Str := ["_law_box", "_law_many", "_law_digit", "_law_raw"]
theorem sc__law_choose : FnScope N__law_choose ["_law_box", "_law_many"] (defScope s__law_choose) := ⟨rfl, rfl, rfl, by decide +kernel, rfl, by decide +kernel, by decide +kernel⟩
theorem ok__law_choose (T : Txt G C ed a_Plan___init__ fd_Plan___init__ a_Plan_names fd_Plan_names q_Plan_names) : FnK P w G base 1 "_law_choose" ["_law_box", "_law_many"] sem__law_choose := by
  obtain ⟨f, fd, hm, F⟩ := T.f__law_choose
  have nd := sc__law_choose.nd
  refine ⟨f, fd, hm, F.kp, F.binds (fun _ _ _ _ _ _ us hl => match us, hl with | [_, _], _ => rfl), fnd_choose 41077 71 2147483563 39373 5209 2147483629 2147483647 8191 ⟨⟨by decide, by decide⟩, by decide, ⟨by decide, by decide⟩, by decide, ⟨by decide, by decide⟩, by decide, by decide⟩ F sc__law_choose fun cdv A outer s H E Z => ?_⟩
  exact pss_cons (ps_if (DT.pt (dt_cmp op_gt dop_gt (de_ix (ix_all Z.K Z.hu1) dop_ix (dv 0) de_int (fun _ _ => rfl)) de_int (nomark _)))
      (pss_cons (ps_set nd rfl (by first | exact .inl rfl | exact .inr rfl) (DE.pe (de_op op_mod dop_mod (dde (dr_callTy (g1_mono _) (bl_int) T.b_int Z.mg (by decide +kernel) (by rfl) (da_cons (de_ix (ix_all Z.K Z.hu1) dop_ix (dv 0) de_int (fun _ _ => rfl)) da_nil))) (dv 1)))) (pss_cons (ps_asg (DE.pe (de_op op_fdiv dop_fdiv (de_ix (ix_all Z.K Z.hu1) dop_ix (dv 0) de_int (fun _ _ => rfl)) (dv 1))) (pg_sub (pv 0) pe_int set_list)) (pss_one (ps_ret (DR.pe (ddr (dv 2))))))) pss_nil)
    (pss_cons (ps_set nd rfl (by first | exact .inl rfl | exact .inr rfl) (DE.pe (de_op op_mod dop_mod (dde (dr_callTy (g1_mono _) (bl_int) T.b_int Z.mg (by decide +kernel) (by rfl) (da_cons (dde (dr_op op_addAll (dop_add Z.K) (de_op op_mul dop_mul (de_ix (ix_all Z.K Z.hu1) dop_ix (dv 0) de_int (fun _ _ => rfl)) de_int) de_int)) da_nil))) de_int))) (pss_cons (ps_asg (DE.pe (dde (dr_op op_addAll (dop_add Z.K) (de_op op_mod dop_mod (dde (dr_callTy (g1_mono _) (bl_int) T.b_int Z.mg (by decide +kernel) (by rfl) (da_cons (dde (dr_op op_addAll (dop_add Z.K) (de_op op_mul dop_mul (dv 3) de_int) de_int)) da_nil))) de_int) de_int))) (pg_sub (pv 0) pe_int set_list)) (pss_one (ps_ret (DR.pe (ddr (de_op op_mod dop_mod (dde (dr_callTy (g1_mono _) (bl_int) T.b_int Z.mg (by decide +kernel) (by rfl) (da_cons (de_op op_fdiv dop_fdiv (dde (dr_op op_addAll (dop_add Z.K) (de_op op_mul dop_mul (dv 3) de_int) (de_ix (ix_all Z.K Z.hu1) dop_ix (dv 0) de_int (fun _ _ => rfl)))) de_int) da_nil))) (dv 1))))))))

abbrev N_is_integer : List Str := ["value"]
theorem sc_is_integer : FnScope N_is_integer ["value"] (defScope s_is_integer) := ⟨rfl, rfl, rfl, by decide +kernel, rfl, by decide +kernel, by decide +kernel⟩
theorem ok_is_integer (T : Txt G C ed a_Plan___init__ fd_Plan___init__ a_Plan_names fd_Plan_names q_Plan_names) : FnK P w G base 1 "is_integer" ["value"] sem_is_integer := by
  obtain ⟨f, fd, hm, F⟩ := T.f_is_integer
  have nd := sc_is_integer.nd
  exact ⟨f, fd, hm, F.kp, F.binds (fun _ _ _ _ _ _ us hl => match us, hl with | [_], _ => rfl), fnd_ok F sc_is_integer (by decide) fun cdv A outer s H E Z =>
    (dss_one (ds_ret (ddr (de_and (dde (dr_callB (g2_mono _) (bl_isi Z.K) T.b_isinstance Z.mg (by decide +kernel) (by rfl) (da_cons (dv 0) (da_cons (dty Z (by rfl) T.b_int (by decide +kernel)) da_nil)))) (de_one (de_not (dde (dr_callB (g2_mono _) (bl_isi Z.K) T.b_isinstance Z.mg (by decide +kernel) (by rfl) (da_cons (dv 0) (da_cons (dty Z (by rfl) T.b_bool (by decide +kernel)) da_nil))))))))))⟩
abbrev N_is_length : List Str := ["value"]
theorem sc_is_length : FnScope N_is_length ["value"] (defScope s_is_length) := ⟨rfl, rfl, rfl, by decide +kernel, rfl, by decide +kernel, by decide +kernel⟩
theorem ok_is_length (T : Txt G C ed a_Plan___init__ fd_Plan___init__ a_Plan_names fd_Plan_names q_Plan_names) : FnK P w G base 2 "is_length" ["value"] sem_is_length := by
  obtain ⟨f, fd, hm, F⟩ := T.f_is_length
  have nd := sc_is_length.nd
  exact ⟨f, fd, hm, F.kp, F.binds (fun _ _ _ _ _ _ us hl => match us, hl with | [_], _ => rfl), fnd_ok F sc_is_length (by decide) fun cdv A outer s H E Z =>
    (dss_one (ds_ret (ddr (de_and (dde (dr_f Z (ok_is_integer T) (by decide) (by rfl) (da_cons (dv 0) da_nil))) (de_one (de_cmp op_ge dop_ge (dv 0) de_int (nomark _)))))))⟩
abbrev N_is_name : List Str := ["value", "letter"]
theorem sc_is_name : FnScope N_is_name ["value"] (defScope s_is_name) := ⟨rfl, rfl, rfl, by decide +kernel, rfl, by decide +kernel, by decide +kernel⟩
theorem ok_is_name (T : Txt G C ed a_Plan___init__ fd_Plan___init__ a_Plan_names fd_Plan_names q_Plan_names) : FnK P w G base 1 "is_name" ["value"] sem_is_name := by
  obtain ⟨f, fd, hm, F⟩ := T.f_is_name
  have nd := sc_is_name.nd
  exact ⟨f, fd, hm, F.kp, F.binds (fun _ _ _ _ _ _ us hl => match us, hl with | [_], _ => rfl), fnd_ok F sc_is_name (by decide) fun cdv A outer s H E Z =>
    (dss_cons (ds_if (DW.dt (dw_or (dt_not (dt_val (dde (dr_callB (g2_mono _) (bl_isi Z.K) T.b_isinstance Z.mg (by decide +kernel) (by rfl) (da_cons (dv 0) (da_cons (dty Z (by rfl) T.b_str (by decide +kernel)) da_nil)))))) (dw_or1 (dt_not (dt_chain op_le op_le dop_le dop_le de_int (dde (dr_callB (g1_mono _) (bl_len Z.K) T.b_len Z.mg (by decide +kernel) (by rfl) (da_cons (dv 0) da_nil))) (dgi Z (by rfl) T.c_MOST_LETTERS.choose_spec)))))) (dss_one (ds_ret (ddr de_bl))) dss_nil) (dss_one (ds_ret (dr_callB (g1_mono _) (bl_all rfl) T.b_all Z.mg (by decide +kernel) (by rfl) (da_cons (dde (dr_lc (own := [("letter", 1)]) rfl nd (di_walk (by exact Z.K) (dv 0)) (blkOk_by (N := N_is_name) (sc := defScope s_is_name) (by decide +kernel)) (fun s H C cl fp => (dg_name (by exact nd) (by rfl) (by first | exact .inl rfl | exact .inr rfl))) (by decide) (fun s H C cl fp => dts_nil) (fun s H C cl fp => (de_cmp (op_inAll Z.K Z.hu) dop_in (dv 1) (dgs (Z.blk _ _ _ _ _) (by rfl) T.c_LETTERS.choose_spec) (by with_unfolding_all rfl))))) da_nil)))))⟩
abbrev N_is_number : List Str := ["value"]
theorem sc_is_number : FnScope N_is_number ["value"] (defScope s_is_number) := ⟨rfl, rfl, rfl, by decide +kernel, rfl, by decide +kernel, by decide +kernel⟩
theorem ok_is_number (T : Txt G C ed a_Plan___init__ fd_Plan___init__ a_Plan_names fd_Plan_names q_Plan_names) : FnK P w G base 2 "is_number" ["value"] sem_is_number := by
  obtain ⟨f, fd, hm, F⟩ := T.f_is_number
  have nd := sc_is_number.nd
  exact ⟨f, fd, hm, F.kp, F.binds (fun _ _ _ _ _ _ us hl => match us, hl with | [_], _ => rfl), fnd_ok F sc_is_number (by decide) fun cdv A outer s H E Z =>
    (dss_one (ds_ret (ddr (de_and (dde (dr_f Z (ok_is_integer T) (by decide) (by rfl) (da_cons (dv 0) da_nil))) (de_one (de_cmp op_ge dop_ge (dv 0) de_int (nomark _)))))))⟩
abbrev N_is_span : List Str := ["value"]
theorem sc_is_span : FnScope N_is_span ["value"] (defScope s_is_span) := ⟨rfl, rfl, rfl, by decide +kernel, rfl, by decide +kernel, by decide +kernel⟩
theorem ok_is_span (T : Txt G C ed a_Plan___init__ fd_Plan___init__ a_Plan_names fd_Plan_names q_Plan_names) : FnK P w G base 3 "is_span" ["value"] sem_is_span := by
  obtain ⟨f, fd, hm, F⟩ := T.f_is_span
  have nd := sc_is_span.nd
  exact ⟨f, fd, hm, F.kp, F.binds (fun _ _ _ _ _ _ us hl => match us, hl with | [_], _ => rfl), fnd_ok F sc_is_span (by decide) fun cdv A outer s H E Z =>
    (dss_cons (ds_if (dt_cmp op_isN dop_is (dv 0) de_non (nomark _)) (dss_one (ds_ret (ddr de_bl))) dss_nil) (dss_cons (ds_if (DW.dt (dw_or (dt_not (dt_val (dde (dr_callB (g2_mono _) (bl_isi Z.K) T.b_isinstance Z.mg (by decide +kernel) (by rfl) (da_cons (dv 0) (da_cons (dty Z (by rfl) T.b_tuple (by decide +kernel)) da_nil)))))) (dw_or (dt_cmp (op_neD Z.hu64) (dop_ne Z.K) (dde (dr_callB (g1_mono _) (bl_len Z.K) T.b_len Z.mg (by decide +kernel) (by rfl) (da_cons (dv 0) da_nil))) de_int (nomark _)) (dw_or (dt_not (dt_val (dde (dr_f Z (ok_is_number T) (by decide) (by rfl) (da_cons (de_ix (ix_all Z.K Z.hu1) dop_ix (dv 0) de_int (fun _ _ => rfl)) da_nil))))) (dw_or1 (dt_not (dt_val (dde (dr_f Z (ok_is_number T) (by decide) (by rfl) (da_cons (de_ix (ix_all Z.K Z.hu1) dop_ix (dv 0) de_int (fun _ _ => rfl)) da_nil)))))))))) (dss_one (ds_ret (ddr de_bl))) dss_nil) (dss_one (ds_ret (ddr (de_cmp op_le dop_le (de_ix (ix_all Z.K Z.hu1) dop_ix (dv 0) de_int (fun _ _ => rfl)) (de_ix (ix_all Z.K Z.hu1) dop_ix (dv 0) de_int (fun _ _ => rfl)) (nomark _)))))))⟩
abbrev N_is_person : List Str := ["value"]
theorem sc_is_person : FnScope N_is_person ["value"] (defScope s_is_person) := ⟨rfl, rfl, rfl, by decide +kernel, rfl, by decide +kernel, by decide +kernel⟩
theorem ok_is_person (T : Txt G C ed a_Plan___init__ fd_Plan___init__ a_Plan_names fd_Plan_names q_Plan_names) : FnK P w G base 4 "is_person" ["value"] sem_is_person := by
  obtain ⟨f, fd, hm, F⟩ := T.f_is_person
  have nd := sc_is_person.nd
  exact ⟨f, fd, hm, F.kp, F.binds (fun _ _ _ _ _ _ us hl => match us, hl with | [_], _ => rfl), fnd_ok F sc_is_person (by decide) fun cdv A outer s H E Z =>
    (dss_cons (ds_if (DW.dt (dw_or (dt_not (dt_val (dde (dr_callB (g2_mono _) (bl_isi Z.K) T.b_isinstance Z.mg (by decide +kernel) (by rfl) (da_cons (dv 0) (da_cons (dty Z (by rfl) T.b_tuple (by decide +kernel)) da_nil)))))) (dw_or (dt_cmp (op_neD Z.hu64) (dop_ne Z.K) (dde (dr_callB (g1_mono _) (bl_len Z.K) T.b_len Z.mg (by decide +kernel) (by rfl) (da_cons (dv 0) da_nil))) de_int (nomark _)) (dw_or1 (dt_not (dt_val (dde (dr_f Z (ok_is_name T) (by decide) (by rfl) (da_cons (de_ix (ix_all Z.K Z.hu1) dop_ix (dv 0) de_int (fun _ _ => rfl)) da_nil))))))))) (dss_one (ds_ret (ddr de_bl))) dss_nil) (dss_one (ds_ret (ddr (de_and (dde (dr_f Z (ok_is_length T) (by decide) (by rfl) (da_cons (de_ix (ix_all Z.K Z.hu1) dop_ix (dv 0) de_int (fun _ _ => rfl)) da_nil))) (de_and (dde (dr_f Z (ok_is_number T) (by decide) (by rfl) (da_cons (de_ix (ix_all Z.K Z.hu1) dop_ix (dv 0) de_int (fun _ _ => rfl)) da_nil))) (de_one (dde (dr_f Z (ok_is_span T) (by decide) (by rfl) (da_cons (de_ix (ix_all Z.K Z.hu1) dop_ix (dv 0) de_int (fun _ _ => rfl)) da_nil))))))))))⟩
abbrev N_is_sequence : List Str := ["value"]
theorem sc_is_sequence : FnScope N_is_sequence ["value"] (defScope s_is_sequence) := ⟨rfl, rfl, rfl, by decide +kernel, rfl, by decide +kernel, by decide +kernel⟩
theorem ok_is_sequence (T : Txt G C ed a_Plan___init__ fd_Plan___init__ a_Plan_names fd_Plan_names q_Plan_names) : FnK P w G base 1 "is_sequence" ["value"] sem_is_sequence := by
  obtain ⟨f, fd, hm, F⟩ := T.f_is_sequence
  have nd := sc_is_sequence.nd
  exact ⟨f, fd, hm, F.kp, F.binds (fun _ _ _ _ _ _ us hl => match us, hl with | [_], _ => rfl), fnd_ok F sc_is_sequence (by decide) fun cdv A outer s H E Z =>
    (dss_one (ds_ret (dr_callB (g2_mono _) (bl_isi Z.K) T.b_isinstance Z.mg (by decide +kernel) (by rfl) (da_cons (dv 0) (da_cons (de_tup (da_cons (dty Z (by rfl) T.b_list (by decide +kernel)) (da_cons (dty Z (by rfl) T.b_tuple (by decide +kernel)) da_nil))) da_nil)))))⟩
abbrev N_are_people : List Str := ["value", "one"]
theorem sc_are_people : FnScope N_are_people ["value"] (defScope s_are_people) := ⟨rfl, rfl, rfl, by decide +kernel, rfl, by decide +kernel, by decide +kernel⟩
theorem ok_are_people (T : Txt G C ed a_Plan___init__ fd_Plan___init__ a_Plan_names fd_Plan_names q_Plan_names) : FnK P w G base 5 "are_people" ["value"] sem_are_people := by
  obtain ⟨f, fd, hm, F⟩ := T.f_are_people
  have nd := sc_are_people.nd
  exact ⟨f, fd, hm, F.kp, F.binds (fun _ _ _ _ _ _ us hl => match us, hl with | [_], _ => rfl), fnd_ok F sc_are_people (by decide) fun cdv A outer s H E Z =>
    (dss_cons (ds_if (DW.dt (dw_or (dt_not (dt_val (dde (dr_f Z (ok_is_sequence T) (by decide) (by rfl) (da_cons (dv 0) da_nil))))) (dw_or (dt_cmp (op_eqD Z.hu64) (dop_eq Z.K) (dde (dr_callB (g1_mono _) (bl_len Z.K) T.b_len Z.mg (by decide +kernel) (by rfl) (da_cons (dv 0) da_nil))) de_int (nomark _)) (dw_or1 (dt_not (dt_val (dde (dr_callB (g1_mono _) (bl_all rfl) T.b_all Z.mg (by decide +kernel) (by rfl) (da_cons (dde (dr_lc (own := [("one", 1)]) rfl nd (di_walk (by exact Z.K) (dv 0)) (blkOk_by (N := N_are_people) (sc := defScope s_are_people) (by decide +kernel)) (fun s H C cl fp => (dg_name (by exact nd) (by rfl) (by first | exact .inl rfl | exact .inr rfl))) (by decide) (fun s H C cl fp => dts_nil) (fun s H C cl fp => (dde (dr_f (Z.blk _ _ _ _ _) (ok_is_person T) (by decide) (by rfl) (da_cons (dv 1) da_nil)))))) da_nil))))))))) (dss_one (ds_ret (ddr de_bl))) dss_nil) (dss_one (ds_ret (ddr (de_cmp (op_eqD Z.hu64) (dop_eq Z.K) (dde (dr_callB (g1_mono _) (bl_len Z.K) T.b_len Z.mg (by decide +kernel) (by rfl) (da_cons (dde (dr_dc (own := [("one", 1)]) rfl nd (di_walk (by exact Z.K) (dv 0)) (blkOk_by (N := N_are_people) (sc := defScope s_are_people) (by decide +kernel)) (fun s H C cl fp => (dg_name (by exact nd) (by rfl) (by first | exact .inl rfl | exact .inr rfl))) (by decide) (fun s H C cl fp => dts_nil) (fun s H C cl fp => (de_ix (ix_all Z.K Z.hu1) dop_ix (dv 1) de_int (fun _ _ => rfl))) (fun s H C cl fp => de_bl))) da_nil))) (dde (dr_callB (g1_mono _) (bl_len Z.K) T.b_len Z.mg (by decide +kernel) (by rfl) (da_cons (dv 0) da_nil))) (nomark _))))))⟩
abbrev N_is_meeting : List Str := ["names", "value"]
theorem sc_is_meeting : FnScope N_is_meeting ["names", "value"] (defScope s_is_meeting) := ⟨rfl, rfl, rfl, by decide +kernel, rfl, by decide +kernel, by decide +kernel⟩
theorem ok_is_meeting (T : Txt G C ed a_Plan___init__ fd_Plan___init__ a_Plan_names fd_Plan_names q_Plan_names) : FnK P w G base 3 "is_meeting" ["names", "value"] sem_is_meeting := by
  obtain ⟨f, fd, hm, F⟩ := T.f_is_meeting
  have nd := sc_is_meeting.nd
  exact ⟨f, fd, hm, F.kp, F.binds (fun _ _ _ _ _ _ us hl => match us, hl with | [_, _], _ => rfl), fnd_ok F sc_is_meeting (by decide) fun cdv A outer s H E Z =>
    (dss_cons (ds_if (DW.dt (dw_or (dt_not (dt_val (dde (dr_callB (g2_mono _) (bl_isi Z.K) T.b_isinstance Z.mg (by decide +kernel) (by rfl) (da_cons (dv 1) (da_cons (dty Z (by rfl) T.b_tuple (by decide +kernel)) da_nil)))))) (dw_or (dt_cmp (op_neD Z.hu64) (dop_ne Z.K) (dde (dr_callB (g1_mono _) (bl_len Z.K) T.b_len Z.mg (by decide +kernel) (by rfl) (da_cons (dv 1) da_nil))) de_int (nomark _)) (dw_or1 (dt_not (dt_val (dde (dr_f Z (ok_is_number T) (by decide) (by rfl) (da_cons (de_ix (ix_all Z.K Z.hu1) dop_ix (dv 1) de_int (fun _ _ => rfl)) da_nil))))))))) (dss_one (ds_ret (ddr de_bl))) dss_nil) (dss_cons (ds_if (DW.dt (dw_or (dt_not (dt_val (dde (dr_f Z (ok_is_name T) (by decide) (by rfl) (da_cons (de_ix (ix_all Z.K Z.hu1) dop_ix (dv 1) de_int (fun _ _ => rfl)) da_nil))))) (dw_or (dt_not (dt_val (dde (dr_f Z (ok_is_name T) (by decide) (by rfl) (da_cons (de_ix (ix_all Z.K Z.hu1) dop_ix (dv 1) de_int (fun _ _ => rfl)) da_nil))))) (dw_or1 (dt_cmp (op_eqD Z.hu64) (dop_eq Z.K) (de_ix (ix_all Z.K Z.hu1) dop_ix (dv 1) de_int (fun _ _ => rfl)) (de_ix (ix_all Z.K Z.hu1) dop_ix (dv 1) de_int (fun _ _ => rfl)) (nomark _)))))) (dss_one (ds_ret (ddr de_bl))) dss_nil) (dss_one (ds_ret (ddr (de_and (de_cmp (op_inAll Z.K Z.hu) dop_in (de_ix (ix_all Z.K Z.hu1) dop_ix (dv 1) de_int (fun _ _ => rfl)) (dv 0) (by with_unfolding_all rfl)) (de_one (de_cmp (op_inAll Z.K Z.hu) dop_in (de_ix (ix_all Z.K Z.hu1) dop_ix (dv 1) de_int (fun _ _ => rfl)) (dv 0) (by with_unfolding_all rfl)))))))))⟩
abbrev N_Plan___init__ : List Str := ["self", "people", "meetings", "known", "person", "one"]
theorem sc_Plan___init__ : FnScope N_Plan___init__ ["self", "people", "meetings"] (defScope s_Plan___init__) := ⟨rfl, rfl, rfl, by decide +kernel, rfl, by decide +kernel, by decide +kernel⟩
theorem bd_Plan___init__ (T : Txt G C ed a_Plan___init__ fd_Plan___init__ a_Plan_names fd_Plan_names q_Plan_names) : Binds G.K fd_Plan___init__ ["self", "people", "meetings"] [] := T.f_Plan___init__.binds fun _ _ _ _ _ _ _ us its hl hi => match us, its, hl, hi with | [_, _, _], [_], _, _ => ⟨_, rfl, rfl⟩
theorem bd1_Plan___init__ (T : Txt G C ed a_Plan___init__ fd_Plan___init__ a_Plan_names fd_Plan_names q_Plan_names) : Binds G.K fd_Plan___init__ ["self", "people", "meetings"] [.ref ed] := T.f_Plan___init__.binds1 fun _ _ _ _ _ _ _ us its hl hi => match us, its, hl, hi with | [_, _], [_], _, _ => ⟨_, rfl, rfl⟩
theorem ok_Plan___init__ (T : Txt G C ed a_Plan___init__ fd_Plan___init__ a_Plan_names fd_Plan_names q_Plan_names) : FnI P w G base 6 a_Plan___init__ fd_Plan___init__ ["self", "people", "meetings"] C sem_Plan___init__ :=
  have nd := sc_Plan___init__.nd
  fni_ok T.f_Plan___init__ sc_Plan___init__ (by decide) fun cdv A outer s H E Z =>
    (dsi_cons (ds_if (dt_not (dt_val (dde (dr_f Z (ok_are_people T) (by decide) (by rfl) (da_cons (dv 1) da_nil))))) (dss_one ds_no) dss_nil) (dsi_cons (ds_set [1] (dr_lc (own := [("person", 4)]) rfl nd (di_walk (by exact Z.K) (dv 1)) (blkOk_by (N := N_Plan___init__) (sc := defScope s_Plan___init__) (by decide +kernel)) (fun s H C cl fp => (dg_name (by exact nd) (by rfl) (by first | exact .inl rfl | exact .inr rfl))) (by decide) (fun s H C cl fp => dts_nil) (fun s H C cl fp => (de_ix (ix_all Z.K Z.hu1) dop_ix (dv 4) de_int (fun _ _ => rfl)))) nd rfl (by first | exact .inl rfl | exact .inr rfl)) (dsi_cons (ds_if (DW.dt (dw_or (dt_not (dt_val (dde (dr_f Z (ok_is_sequence T) (by decide) (by rfl) (da_cons (dv 2) da_nil))))) (dw_or1 (dt_not (dt_val (dde (dr_callB (g1_mono _) (bl_all rfl) T.b_all Z.mg (by decide +kernel) (by rfl) (da_cons (dde (dr_lc (own := [("one", 5)]) rfl nd (di_walk (by exact Z.K) (dv 2)) (blkOk_by (N := N_Plan___init__) (sc := defScope s_Plan___init__) (by decide +kernel)) (fun s H C cl fp => (dg_name (by exact nd) (by rfl) (by first | exact .inl rfl | exact .inr rfl))) (by decide) (fun s H C cl fp => dts_nil) (fun s H C cl fp => (dde (dr_f (Z.blk _ _ _ _ _) (ok_is_meeting T) (by decide) (by rfl) (da_cons (dv 3) (da_cons (dv 5) da_nil))))))) da_nil)))))))) (dss_one ds_no) dss_nil) (dsi_flds (dsf_cons Z.K T.k_Plan T.n_Plan_people (pv 0) (dde (dr_callTy (gTuple_mono) (bl_tuple Z.K) T.b_tuple Z.mg (by decide +kernel) (by rfl) (da_cons (dv 1) da_nil))) (dsf_cons Z.K T.k_Plan T.n_Plan_meetings (pv 0) (dde (dr_callTy (gTuple_mono) (bl_tuple Z.K) T.b_tuple Z.mg (by decide +kernel) (by rfl) (da_cons (dv 2) da_nil))) dsf_nil))))))
abbrev N__law_seed : List Str := ["_law_script", "_law_k", "_law_cell", "_law_great"]
theorem sc__law_seed : FnScope N__law_seed ["_law_script", "_law_k"] (defScope s__law_seed) := ⟨rfl, rfl, rfl, by decide +kernel, rfl, by decide +kernel, by decide +kernel⟩
theorem ok__law_seed0 (T : Txt G C ed a_Plan___init__ fd_Plan___init__ a_Plan_names fd_Plan_names q_Plan_names) : FnK P w G base 1 "_law_seed" ["_law_script", "_law_k"] sem__law_seed0 := by
  obtain ⟨f, fd, hm, F⟩ := T.f__law_seed
  have nd := sc__law_seed.nd
  exact ⟨f, fd, hm, F.kp, F.binds (fun _ _ _ _ _ _ us hl => match us, hl with | [_, _], _ => rfl), fnd_ok F sc__law_seed (by decide) fun cdv A outer s H E Z =>
    (dss_cons (ds_set [1] (dr_op op_addAll (dop_add Z.K) (de_op op_mul dop_mul de_int (dv 1)) de_int) nd rfl (by first | exact .inl rfl | exact .inr rfl)) (dss_cons (ds_if (dt_cmp op_lt dop_lt (dv 1) (dde (dr_callB (g1_mono _) (bl_len Z.K) T.b_len Z.mg (by decide +kernel) (by rfl) (da_cons (dv 0) da_nil))) (nomark _)) (dss_one (ds_set [0, 1] (dr_callB (g1_mono _) (bl_abs) T.b_abs Z.mg (by decide +kernel) (by rfl) (da_cons (de_ix ix_list (dop_ixScr Z.K) (dv 0) (dv 1) (fun _ _ => rfl)) da_nil)) nd rfl (by first | exact .inl rfl | exact .inr rfl))) (dss_one (ds_if (dt_cmp op_gt dop_gt (dde (dr_callB (g1_mono _) (bl_len Z.K) T.b_len Z.mg (by decide +kernel) (by rfl) (da_cons (dv 0) da_nil))) de_int (nomark _)) (dss_one (ds_set [2, 0, 1] (dr_op op_addAll (dop_add Z.K) (dv 2) (de_op op_mul dop_mul (de_op op_mod dop_mod (dde (dr_callTy (g1_mono _) (bl_int) T.b_int Z.mg (by decide +kernel) (by rfl) (da_cons (dde (dr_callB (g1_mono _) (bl_abs) T.b_abs Z.mg (by decide +kernel) (by rfl) (da_cons (de_ix ix_list (dop_ixScr Z.K) (dv 0) (de_op op_mod dop_mod (dde (dr_callTy (g1_mono _) (bl_int) T.b_int Z.mg (by decide +kernel) (by rfl) (da_cons (dv 1) da_nil))) (dde (dr_callB (g1_mono _) (bl_len Z.K) T.b_len Z.mg (by decide +kernel) (by rfl) (da_cons (dv 0) da_nil)))) (fun _ _ => rfl)) da_nil))) da_nil))) de_int) de_int)) nd rfl (by first | exact .inl rfl | exact .inr rfl))) dss_nil))) (dss_cons (ds_set [2] (ddr (de_if (dt_cmp op_ge dop_ge (dv 2) (de_op op_pow dop_pow de_int de_int) (nomark _)) (dv 2) de_int)) nd rfl (by first | exact .inl rfl | exact .inr rfl)) (dss_one (ds_ret (dr_lst (da_cons (dv 3) (da_cons (dde (dr_op op_addAll (dop_add Z.K) (de_op op_mod dop_mod (dde (dr_callTy (g1_mono _) (bl_int) T.b_int Z.mg (by decide +kernel) (by rfl) (da_cons (dde (dr_op op_addAll (dop_add Z.K) (de_op op_mul dop_mul (de_op op_mod dop_mod (dde (dr_callTy (g1_mono _) (bl_int) T.b_int Z.mg (by decide +kernel) (by rfl) (da_cons (dv 2) da_nil))) de_int) de_int) (de_op op_mul dop_mul de_int (dv 1)))) da_nil))) de_int) de_int)) da_nil))))))))⟩
theorem ok__law_seed (T : Txt G C ed a_Plan___init__ fd_Plan___init__ a_Plan_names fd_Plan_names q_Plan_names) : FnK P w G base 1 "_law_seed" ["_law_script", "_law_k"] sem__law_seed := box_ofC (ok__law_seed0 T) seed_sem
abbrev N_Plan_names : List Str := ["self", "person"]
theorem sc_Plan_names : FnScope N_Plan_names ["self"] (defScope s_Plan_names) := ⟨rfl, rfl, rfl, by decide +kernel, rfl, by decide +kernel, by decide +kernel⟩
theorem bd_Plan_names (T : Txt G C ed a_Plan___init__ fd_Plan___init__ a_Plan_names fd_Plan_names q_Plan_names) : Binds G.K fd_Plan_names ["self"] [] := T.f_Plan_names.binds fun _ _ _ _ _ _ us hl => match us, hl with | [_], _ => rfl
theorem ok_Plan_names (T : Txt G C ed a_Plan___init__ fd_Plan___init__ a_Plan_names fd_Plan_names q_Plan_names) : FnD P w G base 1 a_Plan_names fd_Plan_names ["self"] sem_Plan_names :=
  have nd := sc_Plan_names.nd
  fnd_ok T.f_Plan_names sc_Plan_names (by decide) fun cdv A outer s H E Z =>
    (dss_one (ds_ret (dr_callTy (gTuple_mono) (bl_tuple Z.K) T.b_tuple Z.mg (by decide +kernel) (by rfl) (da_cons (dde (dr_lc (own := [("person", 1)]) rfl nd (di_walk (by exact Z.K) (de_fld Z.K T.k_Plan T.n_Plan_people (dv 0))) (blkOk_by (N := N_Plan_names) (sc := defScope s_Plan_names) (by decide +kernel)) (fun s H C cl fp => (dg_name (by exact nd) (by rfl) (by first | exact .inl rfl | exact .inr rfl))) (by decide) (fun s H C cl fp => dts_nil) (fun s H C cl fp => (de_ix (ix_all Z.K Z.hu1) dop_ix (dv 1) de_int (fun _ _ => rfl))))) da_nil))))
abbrev N_is_earlier : List Str := ["one", "other"]
theorem sc_is_earlier : FnScope N_is_earlier ["one", "other"] (defScope s_is_earlier) := ⟨rfl, rfl, rfl, by decide +kernel, rfl, by decide +kernel, by decide +kernel⟩
theorem ok_is_earlier (T : Txt G C ed a_Plan___init__ fd_Plan___init__ a_Plan_names fd_Plan_names q_Plan_names) : FnK P w G base 1 "is_earlier" ["one", "other"] sem_is_earlier := by
  obtain ⟨f, fd, hm, F⟩ := T.f_is_earlier
  have nd := sc_is_earlier.nd
  exact ⟨f, fd, hm, F.kp, F.binds (fun _ _ _ _ _ _ us hl => match us, hl with | [_, _], _ => rfl), fnd_ok F sc_is_earlier (by decide) fun cdv A outer s H E Z =>
    (dss_one (ds_ret (ddr (de_and (de_cmp op_notN dop_isnot (dv 0) de_non (nomark _)) (de_one (de_or (de_cmp op_isN dop_is (dv 1) de_non (nomark _)) (de_one (de_cmp op_lt dop_lt (dv 0) (dv 1) (nomark _)))))))))⟩
abbrev N_need_same : List Str := ["p", "q"]
theorem sc_need_same : FnScope N_need_same ["p", "q"] (defScope s_need_same) := ⟨rfl, rfl, rfl, by decide +kernel, rfl, by decide +kernel, by decide +kernel⟩
theorem ok_need_same (T : Txt G C ed a_Plan___init__ fd_Plan___init__ a_Plan_names fd_Plan_names q_Plan_names) : FnK P w G base 1 "need_same" ["p", "q"] sem_need_same := by
  obtain ⟨f, fd, hm, F⟩ := T.f_need_same
  have nd := sc_need_same.nd
  exact ⟨f, fd, hm, F.kp, F.binds (fun _ _ _ _ _ _ us hl => match us, hl with | [_, _], _ => rfl), fnd_ok F sc_need_same (by decide) fun cdv A outer s H E Z =>
    (dss_one (ds_if (dt_cmp (op_neD Z.hu64) (dop_ne Z.K) (de_fld Z.K T.k_Plan T.n_Plan_people (dv 0)) (de_fld Z.K T.k_Plan T.n_Plan_people (dv 1)) (nomark _)) (dss_one ds_no) dss_nil))⟩
abbrev N_passed : List Str := ["giver", "wait", "day", "taker"]
theorem sc_passed : FnScope N_passed ["giver", "wait", "day", "taker"] (defScope s_passed) := ⟨rfl, rfl, rfl, by decide +kernel, rfl, by decide +kernel, by decide +kernel⟩
theorem ok_passed (T : Txt G C ed a_Plan___init__ fd_Plan___init__ a_Plan_names fd_Plan_names q_Plan_names) : FnK P w G base 1 "passed" ["giver", "wait", "day", "taker"] sem_passed := by
  obtain ⟨f, fd, hm, F⟩ := T.f_passed
  have nd := sc_passed.nd
  exact ⟨f, fd, hm, F.kp, F.binds (fun _ _ _ _ _ _ us hl => match us, hl with | [_, _, _, _], _ => rfl), fnd_ok F sc_passed (by decide) fun cdv A outer s H E Z =>
    (dss_cons (ds_if (DW.dt (dw_or (dt_cmp op_isN dop_is (dv 0) de_non (nomark _)) (dw_or1 (dt_cmp op_gt dop_gt (dde (dr_op op_addAll (dop_add Z.K) (dv 0) (dv 1))) (dv 2) (nomark _))))) (dss_one (ds_retv 3 (pv 3))) dss_nil) (dss_one (ds_ret (dr_if (dt_cmp op_isN dop_is (dv 3) de_non (nomark _)) (ddr (dv 2)) (dr_callB (gMM_mono _) (bl_min rfl) T.b_min Z.mg (by decide +kernel) (by rfl) (da_cons (dde (dr_callTy (g1_mono _) (bl_int) T.b_int Z.mg (by decide +kernel) (by rfl) (da_cons (dv 2) da_nil))) (da_cons (dde (dr_callTy (g1_mono _) (bl_int) T.b_int Z.mg (by decide +kernel) (by rfl) (da_cons (dv 3) da_nil))) da_nil)))))))⟩
abbrev N_days_by : List Str := ["plan", "firsts", "found", "waits", "day", "one", "other", "ahead", "name", "person"]
theorem sc_days_by : FnScope N_days_by ["plan", "firsts"] (defScope s_days_by) := ⟨rfl, rfl, rfl, by decide +kernel, rfl, by decide +kernel, by decide +kernel⟩
theorem ok_days_by (T : Txt G C ed a_Plan___init__ fd_Plan___init__ a_Plan_names fd_Plan_names q_Plan_names) : FnK P w G base 3 "days_by" ["plan", "firsts"] sem_days_by := by
  obtain ⟨f, fd, hm, F⟩ := T.f_days_by
  have nd := sc_days_by.nd
  exact ⟨f, fd, hm, F.kp, F.binds (fun _ _ _ _ _ _ us hl => match us, hl with | [_, _], _ => rfl), fnd_ok F sc_days_by (by decide) fun cdv A outer s H E Z =>
    (dss_cons (ds_setDc (own := [("name", 8)]) (i := 2) [1, 0] rfl rfl (sw_trueD rfl rfl rfl (by decide +kernel)) rfl nd (di_walk (by exact Z.K) (dde (dr_prop Z T.k_Plan T.p_Plan_names (ok_Plan_names T) (by decide) (bd_Plan_names T) rfl (dv 0)))) (blkOk_by (N := N_days_by) (sc := defScope s_days_by) (by decide +kernel)) (fun s H C cl fp => (dg_name (by exact nd) (by rfl) (by first | exact .inl rfl | exact .inr rfl))) (by decide) (fun s H C cl fp => dts_nil) (fun s H C cl fp => (dv 8)) (fun s H C cl fp => (de_get1 Z.hu (dv 1) (dv 8) ⟨rfl, rfl, rfl, rfl⟩))) (dss_cons (ds_setDc (own := [("person", 9)]) (i := 3) [0] rfl rfl (sw_trueD rfl rfl rfl (by decide +kernel)) rfl nd (di_walk (by exact Z.K) (de_fld Z.K T.k_Plan T.n_Plan_people (dv 0))) (blkOk_by (N := N_days_by) (sc := defScope s_days_by) (by decide +kernel)) (fun s H C cl fp => (dg_name (by exact nd) (by rfl) (by first | exact .inl rfl | exact .inr rfl))) (by decide) (fun s H C cl fp => dts_nil) (fun s H C cl fp => (de_ix (ix_all Z.K Z.hu1) dop_ix (dv 9) de_int (fun _ _ => rfl))) (fun s H C cl fp => (de_ix (ix_all Z.K Z.hu1) dop_ix (dv 9) de_int (fun _ _ => rfl)))) (dss_cons (ds_for [0] (passes_of rfl) rfl (di_walk (by exact Z.K) (dde (dr_callB (gSorted_mono) (bl_sorted Z.K Z.hu) T.b_sorted Z.mg (by decide +kernel) (by rfl) (da_cons (de_fld Z.K T.k_Plan T.n_Plan_meetings (dv 0)) da_nil)))) (dg_tup (by exact Z.K) (by rfl) (dgs_cons (dg_name (by exact nd) (by rfl) (by first | exact .inl rfl | exact .inr rfl)) (dgs_cons (dg_name (by exact nd) (by rfl) (by first | exact .inl rfl | exact .inr rfl)) (dgs_cons (dg_name (by exact nd) (by rfl) (by first | exact .inl rfl | exact .inr rfl)) dgs_nil)))) (dss_cons (ds_set [2, 5, 6] (ddr (de_tup (da_cons (de_ix (ix_all Z.K Z.hu1) dop_ix (dv 2) (dv 5) (fun _ _ => rfl)) (da_cons (de_ix (ix_all Z.K Z.hu1) dop_ix (dv 2) (dv 6) (fun _ _ => rfl)) da_nil)))) nd rfl (by first | exact .inl rfl | exact .inr rfl)) (dss_cons (ds_dput [4, 7, 3, 5] Z.hu (pv 2) (dv 6) (dde (dr_f Z (ok_passed T) (by decide) (by rfl) (da_cons (de_ix (ix_all Z.K Z.hu1) dop_ix (dv 7) de_int (fun _ _ => rfl)) (da_cons (de_ix (ix_all Z.K Z.hu1) dop_ix (dv 3) (dv 5) (fun _ _ => rfl)) (da_cons (dv 4) (da_cons (de_ix (ix_all Z.K Z.hu1) dop_ix (dv 7) de_int (fun _ _ => rfl)) da_nil))))))) (dss_one (ds_dput [4, 7, 3, 6] Z.hu (pv 2) (dv 5) (dde (dr_f Z (ok_passed T) (by decide) (by rfl) (da_cons (de_ix (ix_all Z.K Z.hu1) dop_ix (dv 7) de_int (fun _ _ => rfl)) (da_cons (de_ix (ix_all Z.K Z.hu1) dop_ix (dv 3) (dv 6) (fun _ _ => rfl)) (da_cons (dv 4) (da_cons (de_ix (ix_all Z.K Z.hu1) dop_ix (dv 7) de_int (fun _ _ => rfl)) da_nil))))))))))) (dss_one (ds_retv 2 (pv 2))))))⟩
abbrev N_spans_of : List Str := ["plan", "person"]
theorem sc_spans_of : FnScope N_spans_of ["plan"] (defScope s_spans_of) := ⟨rfl, rfl, rfl, by decide +kernel, rfl, by decide +kernel, by decide +kernel⟩
theorem ok_spans_of (T : Txt G C ed a_Plan___init__ fd_Plan___init__ a_Plan_names fd_Plan_names q_Plan_names) : FnK P w G base 1 "spans_of" ["plan"] sem_spans_of := by
  obtain ⟨f, fd, hm, F⟩ := T.f_spans_of
  have nd := sc_spans_of.nd
  exact ⟨f, fd, hm, F.kp, F.binds (fun _ _ _ _ _ _ us hl => match us, hl with | [_], _ => rfl), fnd_ok F sc_spans_of (by decide) fun cdv A outer s H E Z =>
    (dss_one (ds_ret (dr_dc (own := [("person", 1)]) rfl nd (di_walk (by exact Z.K) (de_fld Z.K T.k_Plan T.n_Plan_people (dv 0))) (blkOk_by (N := N_spans_of) (sc := defScope s_spans_of) (by decide +kernel)) (fun s H C cl fp => (dg_name (by exact nd) (by rfl) (by first | exact .inl rfl | exact .inr rfl))) (by decide) (fun s H C cl fp => (dts_one (dt_cmp op_notN dop_isnot (de_ix (ix_all Z.K Z.hu1) dop_ix (dv 1) de_int (fun _ _ => rfl)) de_non (nomark _)))) (fun s H C cl fp => (de_ix (ix_all Z.K Z.hu1) dop_ix (dv 1) de_int (fun _ _ => rfl))) (fun s H C cl fp => (de_ix (ix_all Z.K Z.hu1) dop_ix (dv 1) de_int (fun _ _ => rfl))))))⟩
abbrev N_turning_days : List Str := ["p", "q", "waits", "found", "name", "low", "high", "some", "day", "one", "other", "person"]
theorem sc_turning_days : FnScope N_turning_days ["p", "q"] (defScope s_turning_days) := ⟨rfl, rfl, rfl, by decide +kernel, rfl, by decide +kernel, by decide +kernel⟩
theorem ok_turning_days (T : Txt G C ed a_Plan___init__ fd_Plan___init__ a_Plan_names fd_Plan_names q_Plan_names) : FnK P w G base 2 "turning_days" ["p", "q"] sem_turning_days := by
  obtain ⟨f, fd, hm, F⟩ := T.f_turning_days
  have nd := sc_turning_days.nd
  exact ⟨f, fd, hm, F.kp, F.binds (fun _ _ _ _ _ _ us hl => match us, hl with | [_, _], _ => rfl), fnd_ok F sc_turning_days (by decide) fun cdv A outer s H E Z =>
    (dss_cons (ds_par2 rfl nd rfl rfl (by decide) rfl rfl (dps_cons 2 [0] (dr_dc (own := [("person", 11)]) rfl nd (di_walk (by exact Z.K) (de_fld Z.K T.k_Plan T.n_Plan_people (dv 0))) (blkOk_by (N := N_turning_days) (sc := defScope s_turning_days) (by decide +kernel)) (fun s H C cl fp => (dg_name (by exact nd) (by rfl) (by first | exact .inl rfl | exact .inr rfl))) (by decide) (fun s H C cl fp => dts_nil) (fun s H C cl fp => (de_ix (ix_all Z.K Z.hu1) dop_ix (dv 11) de_int (fun _ _ => rfl))) (fun s H C cl fp => (de_ix (ix_all Z.K Z.hu1) dop_ix (dv 11) de_int (fun _ _ => rfl)))) (dps_cons 3 [] dr_dic0 dps_nil)) (by rfl)) (dss_cons (ds_for [0] (passes_of rfl) rfl (di_itemsF (dr_f Z (ok_spans_of T) (by decide) (by rfl) (da_cons (dv 0) da_nil))) (dg_tup (by exact Z.K) (by rfl) (dgs_cons (dg_name (by exact nd) (by rfl) (by first | exact .inl rfl | exact .inr rfl)) (dgs_cons (dg_tup (by exact Z.K) (by rfl) (dgs_cons (dg_name (by exact nd) (by rfl) (by first | exact .inl rfl | exact .inr rfl)) (dgs_cons (dg_name (by exact nd) (by rfl) (by first | exact .inl rfl | exact .inr rfl)) dgs_nil))) dgs_nil))) (dss_cons (ds_set [5] (dr_lst (da_cons (dv 5) da_nil)) nd rfl (by first | exact .inl rfl | exact .inr rfl)) (dss_cons (ds_for [0, 1] (passes_of rfl) rfl (di_walk (by exact Z.K) (de_tup (da_star Z.K (de_fld Z.K T.k_Plan T.n_Plan_meetings (dv 0)) (da_star Z.K (de_fld Z.K T.k_Plan T.n_Plan_meetings (dv 1)) da_nil)))) (dg_tup (by exact Z.K) (by rfl) (dgs_cons (dg_name (by exact nd) (by rfl) (by first | exact .inl rfl | exact .inr rfl)) (dgs_cons (dg_name (by exact nd) (by rfl) (by first | exact .inl rfl | exact .inr rfl)) (dgs_cons (dg_name (by exact nd) (by rfl) (by first | exact .inl rfl | exact .inr rfl)) dgs_nil)))) (dss_one (ds_if (dt_cmp (op_inAll Z.K Z.hu) dop_in (dv 4) (de_tup (da_cons (dv 9) (da_cons (dv 10) da_nil))) (by with_unfolding_all rfl)) (dss_one (ds_extend [8, 2, 4] (pv 7) (dde (dr_lst (da_cons (de_op op_sub dop_sub (dv 8) (de_ix (ix_all Z.K Z.hu1) dop_ix (dv 2) (dv 4) (fun _ _ => rfl))) (da_cons (dde (dr_op op_addAll (dop_add Z.K) (de_op op_sub dop_sub (dv 8) (de_ix (ix_all Z.K Z.hu1) dop_ix (dv 2) (dv 4) (fun _ _ => rfl))) de_int)) da_nil)))))) dss_nil))) (dss_one (ds_dput [8, 7, 5, 6] Z.hu (pv 3) (dv 4) (dde (dr_lc (own := [("day", 8)]) rfl nd (di_walk (by exact Z.K) (dv 7)) (blkOk_by (N := N_turning_days) (sc := defScope s_turning_days) (by decide +kernel)) (fun s H C cl fp => (dg_name (by exact nd) (by rfl) (by first | exact .inl rfl | exact .inr rfl))) (by decide) (fun s H C cl fp => (dts_one (dt_chain op_le op_le dop_le dop_le (dv 5) (dv 8) (dv 6)))) (fun s H C cl fp => (dv 8))))))))) (dss_one (ds_retv 3 (pv 3)))))⟩
abbrev N_unlike_days : List Str := ["p", "q", "found", "name", "days", "day"]
theorem sc_unlike_days : FnScope N_unlike_days ["p", "q"] (defScope s_unlike_days) := ⟨rfl, rfl, rfl, by decide +kernel, rfl, by decide +kernel, by decide +kernel⟩
theorem ok_unlike_days (T : Txt G C ed a_Plan___init__ fd_Plan___init__ a_Plan_names fd_Plan_names q_Plan_names) : FnK P w G base 4 "unlike_days" ["p", "q"] sem_unlike_days := by
  obtain ⟨f, fd, hm, F⟩ := T.f_unlike_days
  have nd := sc_unlike_days.nd
  exact ⟨f, fd, hm, F.kp, F.binds (fun _ _ _ _ _ _ us hl => match us, hl with | [_, _], _ => rfl), fnd_ok F sc_unlike_days (by decide) fun cdv A outer s H E Z =>
    (dss_cons (ds_set [] (dr_lst da_nil) nd rfl (by first | exact .inl rfl | exact .inr rfl)) (dss_cons (ds_for [0, 1] (passes_of rfl) rfl (di_itemsF (dr_f Z (ok_turning_days T) (by decide) (by rfl) (da_cons (dv 0) (da_cons (dv 1) da_nil)))) (dg_tup (by exact Z.K) (by rfl) (dgs_cons (dg_name (by exact nd) (by rfl) (by first | exact .inl rfl | exact .inr rfl)) (dgs_cons (dg_name (by exact nd) (by rfl) (by first | exact .inl rfl | exact .inr rfl)) dgs_nil))) (dss_one (ds_extend [3, 4, 0, 1] (pv 2) (dde (dr_lc (own := [("day", 5)]) rfl nd (di_walk (by exact Z.K) (dv 4)) (blkOk_by (N := N_unlike_days) (sc := defScope s_unlike_days) (by decide +kernel)) (fun s H C cl fp => (dg_name (by exact nd) (by rfl) (by first | exact .inl rfl | exact .inr rfl))) (by decide) (fun s H C cl fp => dts_nil) (fun s H C cl fp => (de_tup (da_cons (dv 3) (da_cons (dv 5) (da_cons (dde (dr_f (Z.blk _ _ _ _ _) (ok_days_by T) (by decide) (by rfl) (da_cons (dv 0) (da_cons (dde (dr_dic1 (dv 3) (dv 5))) da_nil)))) (da_cons (dde (dr_f (Z.blk _ _ _ _ _) (ok_days_by T) (by decide) (by rfl) (da_cons (dv 1) (da_cons (dde (dr_dic1 (dv 3) (dv 5))) da_nil)))) da_nil))))))))))) (dss_one (ds_retv 2 (pv 2)))))⟩
abbrev N_sooner : List Str := ["p", "q", "name", "day", "here", "there", "person"]
theorem sc_sooner : FnScope N_sooner ["p", "q"] (defScope s_sooner) := ⟨rfl, rfl, rfl, by decide +kernel, rfl, by decide +kernel, by decide +kernel⟩
theorem ok_sooner (T : Txt G C ed a_Plan___init__ fd_Plan___init__ a_Plan_names fd_Plan_names q_Plan_names) : FnK P w G base 5 "sooner" ["p", "q"] sem_sooner := by
  obtain ⟨f, fd, hm, F⟩ := T.f_sooner
  have nd := sc_sooner.nd
  exact ⟨f, fd, hm, F.kp, F.binds (fun _ _ _ _ _ _ us hl => match us, hl with | [_, _], _ => rfl), fnd_ok F sc_sooner (by decide) fun cdv A outer s H E Z =>
    (dss_cons (ds_do (dde (dr_f Z (ok_need_same T) (by decide) (by rfl) (da_cons (dv 0) (da_cons (dv 1) da_nil))))) (dss_cons (ds_for [0, 1] (passes_of rfl) rfl (di_walk (by exact Z.K) (dde (dr_f Z (ok_unlike_days T) (by decide) (by rfl) (da_cons (dv 0) (da_cons (dv 1) da_nil))))) (dg_tup (by exact Z.K) (by rfl) (dgs_cons (dg_name (by exact nd) (by rfl) (by first | exact .inl rfl | exact .inr rfl)) (dgs_cons (dg_name (by exact nd) (by rfl) (by first | exact .inl rfl | exact .inr rfl)) (dgs_cons (dg_name (by exact nd) (by rfl) (by first | exact .inl rfl | exact .inr rfl)) (dgs_cons (dg_name (by exact nd) (by rfl) (by first | exact .inl rfl | exact .inr rfl)) dgs_nil))))) (dss_one (ds_for [0] (passes_of rfl) rfl (di_walk (by exact Z.K) (dde (dr_prop Z T.k_Plan T.p_Plan_names (ok_Plan_names T) (by decide) (bd_Plan_names T) rfl (dv 0)))) (dg_name (by exact nd) (by rfl) (by first | exact .inl rfl | exact .inr rfl)) (dss_one (ds_if (dt_val (dde (dr_f Z (ok_is_earlier T) (by decide) (by rfl) (da_cons (de_ix (ix_all Z.K Z.hu1) dop_ix (dv 4) (dv 6) (fun _ _ => rfl)) (da_cons (de_ix (ix_all Z.K Z.hu1) dop_ix (dv 5) (dv 6) (fun _ _ => rfl)) da_nil))))) (dss_one (ds_ret (ddr (de_tup (da_cons (de_tup (da_cons (de_tup (da_cons (dv 2) (da_cons (dv 3) da_nil))) da_nil)) (da_cons (dv 6) da_nil)))))) dss_nil))))) (dss_one (ds_ret (ddr de_non)))))⟩
abbrev N_never_sooner : List Str := ["p", "q"]
theorem sc_never_sooner : FnScope N_never_sooner ["p", "q"] (defScope s_never_sooner) := ⟨rfl, rfl, rfl, by decide +kernel, rfl, by decide +kernel, by decide +kernel⟩
theorem ok_never_sooner (T : Txt G C ed a_Plan___init__ fd_Plan___init__ a_Plan_names fd_Plan_names q_Plan_names) : FnK P w G base 6 "never_sooner" ["p", "q"] sem_never_sooner := by
  obtain ⟨f, fd, hm, F⟩ := T.f_never_sooner
  have nd := sc_never_sooner.nd
  exact ⟨f, fd, hm, F.kp, F.binds (fun _ _ _ _ _ _ us hl => match us, hl with | [_, _], _ => rfl), fnd_ok F sc_never_sooner (by decide) fun cdv A outer s H E Z =>
    (dss_one (ds_ret (ddr (de_cmp op_isN dop_is (dde (dr_f Z (ok_sooner T) (by decide) (by rfl) (da_cons (dv 0) (da_cons (dv 1) da_nil)))) de_non (nomark _)))))⟩
abbrev N_alike : List Str := ["p", "q"]
theorem sc_alike : FnScope N_alike ["p", "q"] (defScope s_alike) := ⟨rfl, rfl, rfl, by decide +kernel, rfl, by decide +kernel, by decide +kernel⟩
theorem ok_alike (T : Txt G C ed a_Plan___init__ fd_Plan___init__ a_Plan_names fd_Plan_names q_Plan_names) : FnK P w G base 7 "alike" ["p", "q"] sem_alike := by
  obtain ⟨f, fd, hm, F⟩ := T.f_alike
  have nd := sc_alike.nd
  exact ⟨f, fd, hm, F.kp, F.binds (fun _ _ _ _ _ _ us hl => match us, hl with | [_, _], _ => rfl), fnd_ok F sc_alike (by decide) fun cdv A outer s H E Z =>
    (dss_one (ds_ret (ddr (de_and (dde (dr_f Z (ok_never_sooner T) (by decide) (by rfl) (da_cons (dv 0) (da_cons (dv 1) da_nil)))) (de_one (dde (dr_f Z (ok_never_sooner T) (by decide) (by rfl) (da_cons (dv 1) (da_cons (dv 0) da_nil)))))))))⟩
abbrev N_law : List Str := ["_law_script", "_law_k", "_law_box", "_law_far", "_law_late", "_law_low", "_law_crowd", "_law_one", "_law_other", "_law_pair"]
theorem sc_law : FnScope N_law ["_law_script"] (defScope s_law) := ⟨rfl, rfl, rfl, by decide +kernel, rfl, by decide +kernel, by decide +kernel⟩
theorem ok_law (T : Txt G C ed a_Plan___init__ fd_Plan___init__ a_Plan_names fd_Plan_names q_Plan_names) {f : Addr} {fd : FuncData} (F : Fun G.K "law" "law" s_law f fd) : FnD P w G base 8 f fd ["_law_script"] sem_law :=
  have nd := sc_law.nd
  fnd_ok F sc_law (by decide) fun cdv A outer s H E Z =>
    (dss_cons (ds_for [0] (passes_of rfl) rfl (di_rng1 Z.mg (by rfl) T.b_range (da_cons (dde (dr_callB (gMM_mono _) (bl_max rfl) T.b_max Z.mg (by decide +kernel) (by rfl) (da_cons de_int (da_cons (dde (dr_callB (gMM_mono _) (bl_min rfl) T.b_min Z.mg (by decide +kernel) (by rfl) (da_cons de_int (da_cons (dde (dr_callB (g1_mono _) (bl_len Z.K) T.b_len Z.mg (by decide +kernel) (by rfl) (da_cons (dv 0) da_nil))) da_nil)))) da_nil)))) da_nil)) (dg_name (by exact nd) (by rfl) (by first | exact .inl rfl | exact .inr rfl)) (dss_cons (ds_set [0, 1] (dr_f Z (ok__law_seed T) (by decide) (by rfl) (da_cons (dv 0) (da_cons (dv 1) da_nil))) nd rfl (by first | exact .inl rfl | exact .inr rfl)) (dss_cons (ds_par2 rfl nd rfl rfl (by decide) rfl rfl (dps_cons 3 [2] (dr_op op_addAll (dop_add Z.K) (de_op op_pow dop_pow de_int de_int) (dde (dr_f Z (ok__law_choose T) (by decide) (by rfl) (da_cons (dv 2) (da_cons (de_op op_pow dop_pow de_int de_int) da_nil))))) (dps_cons 4 [2] (dr_op op_addAll (dop_add Z.K) de_int (dde (dr_f Z (ok__law_choose T) (by decide) (by rfl) (da_cons (dv 2) (da_cons (de_op op_pow dop_pow de_int de_int) da_nil))))) dps_nil)) (by rfl)) (dss_cons (ds_set [3, 4, 2] (ddr (de_op op_sub dop_sub (de_op op_sub dop_sub (dv 3) (dv 4)) (dde (dr_f Z (ok__law_choose T) (by decide) (by rfl) (da_cons (dv 2) (da_cons de_int da_nil)))))) nd rfl (by first | exact .inl rfl | exact .inr rfl)) (dss_cons (ds_set [4, 5, 3] (dr_lst (da_cons (de_tup (da_cons de_str (da_cons (dv 4) (da_cons de_int (da_cons (de_tup (da_cons (dv 5) (da_cons (dv 3) da_nil))) da_nil))))) (da_cons (de_tup (da_cons de_str (da_cons de_int (da_cons de_int (da_cons de_non da_nil))))) (da_cons (de_tup (da_cons de_str (da_cons de_int (da_cons de_int (da_cons de_non da_nil))))) da_nil)))) nd rfl (by first | exact .inl rfl | exact .inr rfl)) (dss_cons (ds_par2 rfl nd rfl rfl (by decide) rfl rfl (dps_cons 7 [6, 3] (dr_make (c := "Plan") (dvs := []) Z T.k_Plan.mg T.mk_Plan (ok_Plan___init__ T) (by decide) (bd_Plan___init__ T) .nil (fun _ _ => rfl) (by rfl) (da_cons (dv 6) (da_cons (dde (dr_lst (da_cons (de_tup (da_cons (dv 3) (da_cons de_str (da_cons de_str da_nil)))) (da_cons (de_tup (da_cons (dde (dr_op op_addAll (dop_add Z.K) (dv 3) de_int)) (da_cons de_str (da_cons de_str da_nil)))) da_nil)))) da_nil))) (dps_cons 8 [6, 3] (dr_make (c := "Plan") (dvs := []) Z T.k_Plan.mg T.mk_Plan (ok_Plan___init__ T) (by decide) (bd_Plan___init__ T) .nil (fun _ _ => rfl) (by rfl) (da_cons (dv 6) (da_cons (dde (dr_lst (da_cons (de_tup (da_cons (dv 3) (da_cons de_str (da_cons de_str da_nil)))) da_nil))) da_nil))) dps_nil)) (by rfl)) (dss_cons (ds_if (DW.dt (dw_or (dt_cmp op_notBl dop_isnotB (dde (dr_f Z (ok_never_sooner T) (by decide) (by rfl) (da_cons (dv 8) (da_cons (dv 7) da_nil)))) de_bl (nomark _)) (dw_or (dt_cmp op_notBl dop_isnotB (dde (dr_f Z (ok_never_sooner T) (by decide) (by rfl) (da_cons (dv 7) (da_cons (dv 8) da_nil)))) de_bl (nomark _)) (dw_or1 (dt_val (dde (dr_f Z (ok_alike T) (by decide) (by rfl) (da_cons (dv 7) (da_cons (dv 8) da_nil))))))))) (dss_one (ds_ret (ddr de_bl))) dss_nil) (dss_cons (ds_set [7, 8] (dr_f Z (ok_sooner T) (by decide) (by rfl) (da_cons (dv 7) (da_cons (dv 8) da_nil))) nd rfl (by first | exact .inl rfl | exact .inr rfl)) (dss_cons (ds_if (DW.dt (dw_or (dt_cmp (op_neD Z.hu64) (dop_ne Z.K) (de_ix (ix_all Z.K Z.hu1) dop_ix (dv 9) de_int (fun _ _ => rfl)) de_str (nomark _)) (dw_or (dt_cmp (op_neD Z.hu64) (dop_ne Z.K) (de_ix (ix_all Z.K Z.hu1) dop_ix (de_ix (ix_all Z.K Z.hu1) dop_ix (de_ix (ix_all Z.K Z.hu1) dop_ix (dv 9) de_int (fun _ _ => rfl)) de_int (fun _ _ => rfl)) de_int (fun _ _ => rfl)) de_str (nomark _)) (dw_or1 (dt_not (dt_chain op_le op_le dop_le dop_le (dv 5) (de_ix (ix_all Z.K Z.hu1) dop_ix (de_ix (ix_all Z.K Z.hu1) dop_ix (de_ix (ix_all Z.K Z.hu1) dop_ix (dv 9) de_int (fun _ _ => rfl)) de_int (fun _ _ => rfl)) de_int (fun _ _ => rfl)) (de_op op_sub dop_sub (dv 3) (dv 4)))))))) (dss_one (ds_ret (ddr de_bl))) dss_nil) (dss_cons (ds_if (dt_cmp op_notN dop_isnot (dde (dr_f Z (ok_sooner T) (by decide) (by rfl) (da_cons (dv 8) (da_cons (dv 7) da_nil)))) de_non (nomark _)) (dss_one (ds_ret (ddr de_bl))) dss_nil) (dss_cons (ds_lput [4, 3] (pv 6) de_int (de_tup (da_cons de_str (da_cons (dv 4) (da_cons de_int (da_cons (de_tup (da_cons (dde (dr_op op_addAll (dop_add Z.K) (de_op op_sub dop_sub (dv 3) (dv 4)) de_int)) (da_cons (dv 3) da_nil))) da_nil))))) (pg_sub (pv 6) (DE.pe de_int) set_list)) (dss_cons (ds_par2 rfl nd rfl rfl (by decide) rfl rfl (dps_cons 7 [6, 3] (dr_make (c := "Plan") (dvs := []) Z T.k_Plan.mg T.mk_Plan (ok_Plan___init__ T) (by decide) (bd_Plan___init__ T) .nil (fun _ _ => rfl) (by rfl) (da_cons (dv 6) (da_cons (dde (dr_lst (da_cons (de_tup (da_cons (dv 3) (da_cons de_str (da_cons de_str da_nil)))) (da_cons (de_tup (da_cons (dde (dr_op op_addAll (dop_add Z.K) (dv 3) de_int)) (da_cons de_str (da_cons de_str da_nil)))) da_nil)))) da_nil))) (dps_cons 8 [6] (dr_make (c := "Plan") (dvs := []) Z T.k_Plan.mg T.mk_Plan (ok_Plan___init__ T) (by decide) (bd_Plan___init__ T) .nil (fun _ _ => rfl) (by rfl) (da_cons (dv 6) (da_cons (dde (dr_lst da_nil)) da_nil))) dps_nil)) (by rfl)) (dss_cons (ds_if (DW.dt (dw_or (dt_cmp op_notBl dop_isnotB (dde (dr_f Z (ok_alike T) (by decide) (by rfl) (da_cons (dv 7) (da_cons (dv 8) da_nil)))) de_bl (nomark _)) (dw_or (dt_cmp op_notN dop_isnot (dde (dr_f Z (ok_sooner T) (by decide) (by rfl) (da_cons (dv 7) (da_cons (dv 8) da_nil)))) de_non (nomark _)) (dw_or1 (dt_cmp op_notBl dop_isnotB (dde (dr_f Z (ok_never_sooner T) (by decide) (by rfl) (da_cons (dv 7) (da_cons (dv 8) da_nil)))) de_bl (nomark _)))))) (dss_one (ds_ret (ddr de_bl))) dss_nil) (dss_cons (ds_lput [4, 3] (pv 6) de_int (de_tup (da_cons de_str (da_cons (dv 4) (da_cons de_int (da_cons (de_tup (da_cons de_int (da_cons (de_op op_sub dop_sub (dv 3) (dv 4)) da_nil))) da_nil))))) (pg_sub (pv 6) (DE.pe de_int) set_list)) (dss_cons (ds_par2 rfl nd rfl rfl (by decide) rfl rfl (dps_cons 7 [6, 3] (dr_make (c := "Plan") (dvs := []) Z T.k_Plan.mg T.mk_Plan (ok_Plan___init__ T) (by decide) (bd_Plan___init__ T) .nil (fun _ _ => rfl) (by rfl) (da_cons (dv 6) (da_cons (dde (dr_lst (da_cons (de_tup (da_cons (dv 3) (da_cons de_str (da_cons de_str da_nil)))) da_nil))) da_nil))) (dps_cons 8 [6, 3] (dr_make (c := "Plan") (dvs := []) Z T.k_Plan.mg T.mk_Plan (ok_Plan___init__ T) (by decide) (bd_Plan___init__ T) .nil (fun _ _ => rfl) (by rfl) (da_cons (dv 6) (da_cons (dde (dr_lst (da_cons (de_tup (da_cons (dv 3) (da_cons de_str (da_cons de_str da_nil)))) (da_cons (de_tup (da_cons (de_op op_sub dop_sub (dv 3) de_int) (da_cons de_str (da_cons de_str da_nil)))) da_nil)))) da_nil))) dps_nil)) (by rfl)) (dss_cons (ds_if (DW.dt (dw_or (dt_cmp op_notBl dop_isnotB (dde (dr_f Z (ok_never_sooner T) (by decide) (by rfl) (da_cons (dv 7) (da_cons (dv 8) da_nil)))) de_bl (nomark _)) (dw_or1 (dt_cmp op_notBl dop_isnotB (dde (dr_f Z (ok_never_sooner T) (by decide) (by rfl) (da_cons (dv 8) (da_cons (dv 7) da_nil)))) de_bl (nomark _))))) (dss_one (ds_ret (ddr de_bl))) dss_nil) (dss_cons (ds_set [8, 7] (dr_f Z (ok_sooner T) (by decide) (by rfl) (da_cons (dv 8) (da_cons (dv 7) da_nil))) nd rfl (by first | exact .inl rfl | exact .inr rfl)) (dss_cons (ds_if (DW.dt (dw_or (dt_cmp (op_neD Z.hu64) (dop_ne Z.K) (de_ix (ix_all Z.K Z.hu1) dop_ix (dv 9) de_int (fun _ _ => rfl)) de_str (nomark _)) (dw_or (dt_cmp (op_neD Z.hu64) (dop_ne Z.K) (de_ix (ix_all Z.K Z.hu1) dop_ix (de_ix (ix_all Z.K Z.hu1) dop_ix (de_ix (ix_all Z.K Z.hu1) dop_ix (dv 9) de_int (fun _ _ => rfl)) de_int (fun _ _ => rfl)) de_int (fun _ _ => rfl)) de_str (nomark _)) (dw_or1 (dt_cmp op_gt dop_gt (de_ix (ix_all Z.K Z.hu1) dop_ix (de_ix (ix_all Z.K Z.hu1) dop_ix (de_ix (ix_all Z.K Z.hu1) dop_ix (dv 9) de_int (fun _ _ => rfl)) de_int (fun _ _ => rfl)) de_int (fun _ _ => rfl)) (de_op op_sub dop_sub (de_op op_sub dop_sub (dv 3) (dv 4)) de_int) (nomark _)))))) (dss_one (ds_ret (ddr de_bl))) dss_nil) (dss_cons (ds_lput [4, 3] (pv 6) de_int (de_tup (da_cons de_str (da_cons (dv 4) (da_cons de_int (da_cons (de_tup (da_cons (de_op op_sub dop_sub (dv 3) (dv 4)) (da_cons (dv 3) da_nil))) da_nil))))) (pg_sub (pv 6) (DE.pe de_int) set_list)) (dss_cons (ds_par2 rfl nd rfl rfl (by decide) rfl rfl (dps_cons 7 [6, 3] (dr_make (c := "Plan") (dvs := []) Z T.k_Plan.mg T.mk_Plan (ok_Plan___init__ T) (by decide) (bd_Plan___init__ T) .nil (fun _ _ => rfl) (by rfl) (da_cons (dv 6) (da_cons (dde (dr_lst (da_cons (de_tup (da_cons (dv 3) (da_cons de_str (da_cons de_str da_nil)))) da_nil))) da_nil))) (dps_cons 8 [6, 3] (dr_make (c := "Plan") (dvs := []) Z T.k_Plan.mg T.mk_Plan (ok_Plan___init__ T) (by decide) (bd_Plan___init__ T) .nil (fun _ _ => rfl) (by rfl) (da_cons (dv 6) (da_cons (dde (dr_lst (da_cons (de_tup (da_cons (dv 3) (da_cons de_str (da_cons de_str da_nil)))) (da_cons (de_tup (da_cons (de_op op_sub dop_sub (dv 3) de_int) (da_cons de_str (da_cons de_str da_nil)))) da_nil)))) da_nil))) dps_nil)) (by rfl)) (dss_cons (ds_if (DW.dt (dw_or (dt_cmp op_notBl dop_isnotB (dde (dr_f Z (ok_alike T) (by decide) (by rfl) (da_cons (dv 7) (da_cons (dv 8) da_nil)))) de_bl (nomark _)) (dw_or1 (dt_cmp op_notN dop_isnot (dde (dr_f Z (ok_sooner T) (by decide) (by rfl) (da_cons (dv 8) (da_cons (dv 7) da_nil)))) de_non (nomark _))))) (dss_one (ds_ret (ddr de_bl))) dss_nil) (dss_one (ds_if (dt_not (dt_val (dde (dr_f Z (ok_alike T) (by decide) (by rfl) (da_cons (dde (dr_make (c := "Plan") (dvs := [.ref ed]) Z T.k_Plan.mg T.mk_Plan (ok_Plan___init__ T) (by decide) (bd1_Plan___init__ T) (.cons rfl .nil) (FunI.dflt T.f_Plan___init__) (by rfl) (da_cons (dde (dr_lst (da_cons (de_tup (da_cons de_str (da_cons de_int (da_cons de_int (da_cons de_non da_nil))))) da_nil))) da_nil))) (da_cons (dde (dr_make (c := "Plan") (dvs := [.ref ed]) Z T.k_Plan.mg T.mk_Plan (ok_Plan___init__ T) (by decide) (bd1_Plan___init__ T) (.cons rfl .nil) (FunI.dflt T.f_Plan___init__) (by rfl) (da_cons (dde (dr_lst (da_cons (de_tup (da_cons de_str (da_cons de_int (da_cons de_int (da_cons de_non da_nil))))) da_nil))) da_nil))) da_nil)))))) (dss_one (ds_ret (ddr de_bl))) dss_nil))))))))))))))))))))))) (dss_one (ds_ret (ddr de_bl))))
end
theorem all_mk {P : Program} {w : World} {K : PySem.W.Frag} {h : Heap} {mg : Str → Option Value} {C fa ed eT r_is_integer r_is_length r_is_name r_is_number r_is_span r_is_person r_is_sequence r_are_people r_is_meeting r__law_seed r_is_earlier r_need_same r_passed r_days_by r_spans_of r_turning_days r_unlike_days r_sooner r_never_sooner r_alike r__law_choose r_law r_Plan___init__ r_Plan_names q_Plan_names : Addr} (X : K.In h) (G : h.Ns mainGlobals mg) (hfa : mg "law" = some (.ref fa))
    {od_is_integer an_is_integer : Option Addr} {sl_is_integer : Array (Option Value)} {oc_is_integer kV_is_integer dc_is_integer pm_is_integer cd_is_integer ct_is_integer : Value}
    {od_is_length an_is_length : Option Addr} {sl_is_length : Array (Option Value)} {oc_is_length kV_is_length dc_is_length pm_is_length cd_is_length ct_is_length : Value}
    {od_is_name an_is_name : Option Addr} {sl_is_name : Array (Option Value)} {oc_is_name kV_is_name dc_is_name pm_is_name cd_is_name ct_is_name : Value}
    {od_is_number an_is_number : Option Addr} {sl_is_number : Array (Option Value)} {oc_is_number kV_is_number dc_is_number pm_is_number cd_is_number ct_is_number : Value}
    {od_is_span an_is_span : Option Addr} {sl_is_span : Array (Option Value)} {oc_is_span kV_is_span dc_is_span pm_is_span cd_is_span ct_is_span : Value}
    {od_is_person an_is_person : Option Addr} {sl_is_person : Array (Option Value)} {oc_is_person kV_is_person dc_is_person pm_is_person cd_is_person ct_is_person : Value}
    {od_is_sequence an_is_sequence : Option Addr} {sl_is_sequence : Array (Option Value)} {oc_is_sequence kV_is_sequence dc_is_sequence pm_is_sequence cd_is_sequence ct_is_sequence : Value}
    {od_are_people an_are_people : Option Addr} {sl_are_people : Array (Option Value)} {oc_are_people kV_are_people dc_are_people pm_are_people cd_are_people ct_are_people : Value}
    {od_is_meeting an_is_meeting : Option Addr} {sl_is_meeting : Array (Option Value)} {oc_is_meeting kV_is_meeting dc_is_meeting pm_is_meeting cd_is_meeting ct_is_meeting : Value}
    {od__law_seed an__law_seed : Option Addr} {sl__law_seed : Array (Option Value)} {oc__law_seed kV__law_seed dc__law_seed pm__law_seed cd__law_seed ct__law_seed : Value}
    {od_is_earlier an_is_earlier : Option Addr} {sl_is_earlier : Array (Option Value)} {oc_is_earlier kV_is_earlier dc_is_earlier pm_is_earlier cd_is_earlier ct_is_earlier : Value}
    {od_need_same an_need_same : Option Addr} {sl_need_same : Array (Option Value)} {oc_need_same kV_need_same dc_need_same pm_need_same cd_need_same ct_need_same : Value}
    {od_passed an_passed : Option Addr} {sl_passed : Array (Option Value)} {oc_passed kV_passed dc_passed pm_passed cd_passed ct_passed : Value}
    {od_days_by an_days_by : Option Addr} {sl_days_by : Array (Option Value)} {oc_days_by kV_days_by dc_days_by pm_days_by cd_days_by ct_days_by : Value}
    {od_spans_of an_spans_of : Option Addr} {sl_spans_of : Array (Option Value)} {oc_spans_of kV_spans_of dc_spans_of pm_spans_of cd_spans_of ct_spans_of : Value}
    {od_turning_days an_turning_days : Option Addr} {sl_turning_days : Array (Option Value)} {oc_turning_days kV_turning_days dc_turning_days pm_turning_days cd_turning_days ct_turning_days : Value}
    {od_unlike_days an_unlike_days : Option Addr} {sl_unlike_days : Array (Option Value)} {oc_unlike_days kV_unlike_days dc_unlike_days pm_unlike_days cd_unlike_days ct_unlike_days : Value}
    {od_sooner an_sooner : Option Addr} {sl_sooner : Array (Option Value)} {oc_sooner kV_sooner dc_sooner pm_sooner cd_sooner ct_sooner : Value}
    {od_never_sooner an_never_sooner : Option Addr} {sl_never_sooner : Array (Option Value)} {oc_never_sooner kV_never_sooner dc_never_sooner pm_never_sooner cd_never_sooner ct_never_sooner : Value}
    {od_alike an_alike : Option Addr} {sl_alike : Array (Option Value)} {oc_alike kV_alike dc_alike pm_alike cd_alike ct_alike : Value}
    {od__law_choose an__law_choose : Option Addr} {sl__law_choose : Array (Option Value)} {oc__law_choose kV__law_choose dc__law_choose pm__law_choose cd__law_choose ct__law_choose : Value}
    {od_law an_law : Option Addr} {sl_law : Array (Option Value)} {oc_law kV_law dc_law pm_law cd_law ct_law : Value}
    {od_Plan___init__ an_Plan___init__ : Option Addr} {sl_Plan___init__ : Array (Option Value)} {oc_Plan___init__ kV_Plan___init__ dc_Plan___init__ pm_Plan___init__ cd_Plan___init__ ct_Plan___init__ : Value}
    {oc_T : Value} {od_T od_e : Option Addr} {n_T n_e : Nat} {sl_T sl_e : Array (Option Value)}
    {rest_Plan_names : List Value}
    {od_Plan_names an_Plan_names : Option Addr} {sl_Plan_names : Array (Option Value)} {oc_Plan_names kV_Plan_names dc_Plan_names pm_Plan_names cd_Plan_names ct_Plan_names : Value}
    {tk_LETTERS : Tok}
    {tk_MOST_LETTERS : Tok}
    (h_a_is_integer : PySem.W.nsIn K mainGlobals "is_integer" = some (some (.ref r_is_integer)))
    (h_l_is_integer : K.lookup r_is_integer = some ⟨oc_is_integer, od_is_integer, .func (PySem.W.fnOf "is_integer" "is_integer" (defArgs s_is_integer) (defBody s_is_integer) (defScope s_is_integer) .none kV_is_integer dc_is_integer pm_is_integer an_is_integer cd_is_integer ct_is_integer), sl_is_integer⟩)
    (h_c_is_integer : PySem.W.codeIn K cd_is_integer "is_integer" = true)
    (h_k_is_integer : PySem.W.keepIn K (.ref r_is_integer) = true)
    (h_a_is_length : PySem.W.nsIn K mainGlobals "is_length" = some (some (.ref r_is_length)))
    (h_l_is_length : K.lookup r_is_length = some ⟨oc_is_length, od_is_length, .func (PySem.W.fnOf "is_length" "is_length" (defArgs s_is_length) (defBody s_is_length) (defScope s_is_length) .none kV_is_length dc_is_length pm_is_length an_is_length cd_is_length ct_is_length), sl_is_length⟩)
    (h_c_is_length : PySem.W.codeIn K cd_is_length "is_length" = true)
    (h_k_is_length : PySem.W.keepIn K (.ref r_is_length) = true)
    (h_a_is_name : PySem.W.nsIn K mainGlobals "is_name" = some (some (.ref r_is_name)))
    (h_l_is_name : K.lookup r_is_name = some ⟨oc_is_name, od_is_name, .func (PySem.W.fnOf "is_name" "is_name" (defArgs s_is_name) (defBody s_is_name) (defScope s_is_name) .none kV_is_name dc_is_name pm_is_name an_is_name cd_is_name ct_is_name), sl_is_name⟩)
    (h_c_is_name : PySem.W.codeIn K cd_is_name "is_name" = true)
    (h_k_is_name : PySem.W.keepIn K (.ref r_is_name) = true)
    (h_a_is_number : PySem.W.nsIn K mainGlobals "is_number" = some (some (.ref r_is_number)))
    (h_l_is_number : K.lookup r_is_number = some ⟨oc_is_number, od_is_number, .func (PySem.W.fnOf "is_number" "is_number" (defArgs s_is_number) (defBody s_is_number) (defScope s_is_number) .none kV_is_number dc_is_number pm_is_number an_is_number cd_is_number ct_is_number), sl_is_number⟩)
    (h_c_is_number : PySem.W.codeIn K cd_is_number "is_number" = true)
    (h_k_is_number : PySem.W.keepIn K (.ref r_is_number) = true)
    (h_a_is_span : PySem.W.nsIn K mainGlobals "is_span" = some (some (.ref r_is_span)))
    (h_l_is_span : K.lookup r_is_span = some ⟨oc_is_span, od_is_span, .func (PySem.W.fnOf "is_span" "is_span" (defArgs s_is_span) (defBody s_is_span) (defScope s_is_span) .none kV_is_span dc_is_span pm_is_span an_is_span cd_is_span ct_is_span), sl_is_span⟩)
    (h_c_is_span : PySem.W.codeIn K cd_is_span "is_span" = true)
    (h_k_is_span : PySem.W.keepIn K (.ref r_is_span) = true)
    (h_a_is_person : PySem.W.nsIn K mainGlobals "is_person" = some (some (.ref r_is_person)))
    (h_l_is_person : K.lookup r_is_person = some ⟨oc_is_person, od_is_person, .func (PySem.W.fnOf "is_person" "is_person" (defArgs s_is_person) (defBody s_is_person) (defScope s_is_person) .none kV_is_person dc_is_person pm_is_person an_is_person cd_is_person ct_is_person), sl_is_person⟩)
    (h_c_is_person : PySem.W.codeIn K cd_is_person "is_person" = true)
    (h_k_is_person : PySem.W.keepIn K (.ref r_is_person) = true)
    (h_a_is_sequence : PySem.W.nsIn K mainGlobals "is_sequence" = some (some (.ref r_is_sequence)))
    (h_l_is_sequence : K.lookup r_is_sequence = some ⟨oc_is_sequence, od_is_sequence, .func (PySem.W.fnOf "is_sequence" "is_sequence" (defArgs s_is_sequence) (defBody s_is_sequence) (defScope s_is_sequence) .none kV_is_sequence dc_is_sequence pm_is_sequence an_is_sequence cd_is_sequence ct_is_sequence), sl_is_sequence⟩)
    (h_c_is_sequence : PySem.W.codeIn K cd_is_sequence "is_sequence" = true)
    (h_k_is_sequence : PySem.W.keepIn K (.ref r_is_sequence) = true)
    (h_a_are_people : PySem.W.nsIn K mainGlobals "are_people" = some (some (.ref r_are_people)))
    (h_l_are_people : K.lookup r_are_people = some ⟨oc_are_people, od_are_people, .func (PySem.W.fnOf "are_people" "are_people" (defArgs s_are_people) (defBody s_are_people) (defScope s_are_people) .none kV_are_people dc_are_people pm_are_people an_are_people cd_are_people ct_are_people), sl_are_people⟩)
    (h_c_are_people : PySem.W.codeIn K cd_are_people "are_people" = true)
    (h_k_are_people : PySem.W.keepIn K (.ref r_are_people) = true)
    (h_a_is_meeting : PySem.W.nsIn K mainGlobals "is_meeting" = some (some (.ref r_is_meeting)))
    (h_l_is_meeting : K.lookup r_is_meeting = some ⟨oc_is_meeting, od_is_meeting, .func (PySem.W.fnOf "is_meeting" "is_meeting" (defArgs s_is_meeting) (defBody s_is_meeting) (defScope s_is_meeting) .none kV_is_meeting dc_is_meeting pm_is_meeting an_is_meeting cd_is_meeting ct_is_meeting), sl_is_meeting⟩)
    (h_c_is_meeting : PySem.W.codeIn K cd_is_meeting "is_meeting" = true)
    (h_k_is_meeting : PySem.W.keepIn K (.ref r_is_meeting) = true)
    (h_a__law_seed : PySem.W.nsIn K mainGlobals "_law_seed" = some (some (.ref r__law_seed)))
    (h_l__law_seed : K.lookup r__law_seed = some ⟨oc__law_seed, od__law_seed, .func (PySem.W.fnOf "_law_seed" "_law_seed" (defArgs s__law_seed) (defBody s__law_seed) (defScope s__law_seed) .none kV__law_seed dc__law_seed pm__law_seed an__law_seed cd__law_seed ct__law_seed), sl__law_seed⟩)
    (h_c__law_seed : PySem.W.codeIn K cd__law_seed "_law_seed" = true)
    (h_k__law_seed : PySem.W.keepIn K (.ref r__law_seed) = true)
    (h_a_is_earlier : PySem.W.nsIn K mainGlobals "is_earlier" = some (some (.ref r_is_earlier)))
    (h_l_is_earlier : K.lookup r_is_earlier = some ⟨oc_is_earlier, od_is_earlier, .func (PySem.W.fnOf "is_earlier" "is_earlier" (defArgs s_is_earlier) (defBody s_is_earlier) (defScope s_is_earlier) .none kV_is_earlier dc_is_earlier pm_is_earlier an_is_earlier cd_is_earlier ct_is_earlier), sl_is_earlier⟩)
    (h_c_is_earlier : PySem.W.codeIn K cd_is_earlier "is_earlier" = true)
    (h_k_is_earlier : PySem.W.keepIn K (.ref r_is_earlier) = true)
    (h_a_need_same : PySem.W.nsIn K mainGlobals "need_same" = some (some (.ref r_need_same)))
    (h_l_need_same : K.lookup r_need_same = some ⟨oc_need_same, od_need_same, .func (PySem.W.fnOf "need_same" "need_same" (defArgs s_need_same) (defBody s_need_same) (defScope s_need_same) .none kV_need_same dc_need_same pm_need_same an_need_same cd_need_same ct_need_same), sl_need_same⟩)
    (h_c_need_same : PySem.W.codeIn K cd_need_same "need_same" = true)
    (h_k_need_same : PySem.W.keepIn K (.ref r_need_same) = true)
    (h_a_passed : PySem.W.nsIn K mainGlobals "passed" = some (some (.ref r_passed)))
    (h_l_passed : K.lookup r_passed = some ⟨oc_passed, od_passed, .func (PySem.W.fnOf "passed" "passed" (defArgs s_passed) (defBody s_passed) (defScope s_passed) .none kV_passed dc_passed pm_passed an_passed cd_passed ct_passed), sl_passed⟩)
    (h_c_passed : PySem.W.codeIn K cd_passed "passed" = true)
    (h_k_passed : PySem.W.keepIn K (.ref r_passed) = true)
    (h_a_days_by : PySem.W.nsIn K mainGlobals "days_by" = some (some (.ref r_days_by)))
    (h_l_days_by : K.lookup r_days_by = some ⟨oc_days_by, od_days_by, .func (PySem.W.fnOf "days_by" "days_by" (defArgs s_days_by) (defBody s_days_by) (defScope s_days_by) .none kV_days_by dc_days_by pm_days_by an_days_by cd_days_by ct_days_by), sl_days_by⟩)
    (h_c_days_by : PySem.W.codeIn K cd_days_by "days_by" = true)
    (h_k_days_by : PySem.W.keepIn K (.ref r_days_by) = true)
    (h_a_spans_of : PySem.W.nsIn K mainGlobals "spans_of" = some (some (.ref r_spans_of)))
    (h_l_spans_of : K.lookup r_spans_of = some ⟨oc_spans_of, od_spans_of, .func (PySem.W.fnOf "spans_of" "spans_of" (defArgs s_spans_of) (defBody s_spans_of) (defScope s_spans_of) .none kV_spans_of dc_spans_of pm_spans_of an_spans_of cd_spans_of ct_spans_of), sl_spans_of⟩)
    (h_c_spans_of : PySem.W.codeIn K cd_spans_of "spans_of" = true)
    (h_k_spans_of : PySem.W.keepIn K (.ref r_spans_of) = true)
    (h_a_turning_days : PySem.W.nsIn K mainGlobals "turning_days" = some (some (.ref r_turning_days)))
    (h_l_turning_days : K.lookup r_turning_days = some ⟨oc_turning_days, od_turning_days, .func (PySem.W.fnOf "turning_days" "turning_days" (defArgs s_turning_days) (defBody s_turning_days) (defScope s_turning_days) .none kV_turning_days dc_turning_days pm_turning_days an_turning_days cd_turning_days ct_turning_days), sl_turning_days⟩)
    (h_c_turning_days : PySem.W.codeIn K cd_turning_days "turning_days" = true)
    (h_k_turning_days : PySem.W.keepIn K (.ref r_turning_days) = true)
    (h_a_unlike_days : PySem.W.nsIn K mainGlobals "unlike_days" = some (some (.ref r_unlike_days)))
    (h_l_unlike_days : K.lookup r_unlike_days = some ⟨oc_unlike_days, od_unlike_days, .func (PySem.W.fnOf "unlike_days" "unlike_days" (defArgs s_unlike_days) (defBody s_unlike_days) (defScope s_unlike_days) .none kV_unlike_days dc_unlike_days pm_unlike_days an_unlike_days cd_unlike_days ct_unlike_days), sl_unlike_days⟩)
    (h_c_unlike_days : PySem.W.codeIn K cd_unlike_days "unlike_days" = true)
    (h_k_unlike_days : PySem.W.keepIn K (.ref r_unlike_days) = true)
    (h_a_sooner : PySem.W.nsIn K mainGlobals "sooner" = some (some (.ref r_sooner)))
    (h_l_sooner : K.lookup r_sooner = some ⟨oc_sooner, od_sooner, .func (PySem.W.fnOf "sooner" "sooner" (defArgs s_sooner) (defBody s_sooner) (defScope s_sooner) .none kV_sooner dc_sooner pm_sooner an_sooner cd_sooner ct_sooner), sl_sooner⟩)
    (h_c_sooner : PySem.W.codeIn K cd_sooner "sooner" = true)
    (h_k_sooner : PySem.W.keepIn K (.ref r_sooner) = true)
    (h_a_never_sooner : PySem.W.nsIn K mainGlobals "never_sooner" = some (some (.ref r_never_sooner)))
    (h_l_never_sooner : K.lookup r_never_sooner = some ⟨oc_never_sooner, od_never_sooner, .func (PySem.W.fnOf "never_sooner" "never_sooner" (defArgs s_never_sooner) (defBody s_never_sooner) (defScope s_never_sooner) .none kV_never_sooner dc_never_sooner pm_never_sooner an_never_sooner cd_never_sooner ct_never_sooner), sl_never_sooner⟩)
    (h_c_never_sooner : PySem.W.codeIn K cd_never_sooner "never_sooner" = true)
    (h_k_never_sooner : PySem.W.keepIn K (.ref r_never_sooner) = true)
    (h_a_alike : PySem.W.nsIn K mainGlobals "alike" = some (some (.ref r_alike)))
    (h_l_alike : K.lookup r_alike = some ⟨oc_alike, od_alike, .func (PySem.W.fnOf "alike" "alike" (defArgs s_alike) (defBody s_alike) (defScope s_alike) .none kV_alike dc_alike pm_alike an_alike cd_alike ct_alike), sl_alike⟩)
    (h_c_alike : PySem.W.codeIn K cd_alike "alike" = true)
    (h_k_alike : PySem.W.keepIn K (.ref r_alike) = true)
    (h_a__law_choose : PySem.W.nsIn K mainGlobals "_law_choose" = some (some (.ref r__law_choose)))
    (h_l__law_choose : K.lookup r__law_choose = some ⟨oc__law_choose, od__law_choose, .func (PySem.W.fnOf "_law_choose" "_law_choose" (defArgs s__law_choose) (defBody s__law_choose) (defScope s__law_choose) .none kV__law_choose dc__law_choose pm__law_choose an__law_choose cd__law_choose ct__law_choose), sl__law_choose⟩)
    (h_c__law_choose : PySem.W.codeIn K cd__law_choose "_law_choose" = true)
    (h_k__law_choose : PySem.W.keepIn K (.ref r__law_choose) = true)
    (h_a_law : PySem.W.nsIn K mainGlobals "law" = some (some (.ref r_law)))
    (h_l_law : K.lookup r_law = some ⟨oc_law, od_law, .func (PySem.W.fnOf "law" "law" (defArgs s_law) (defBody s_law) (defScope s_law) .none kV_law dc_law pm_law an_law cd_law ct_law), sl_law⟩)
    (h_c_law : PySem.W.codeIn K cd_law "law" = true)
    (h_k_law : PySem.W.keepIn K (.ref r_law) = true)
    (h_aC : PySem.W.nsIn K mainGlobals "Plan" = some (some (.ref C)))
    (h_pg : PySem.W.plainGet K C Str.empty = true)
    (h_hd : PySem.W.hasDictIn K C = true)
    (h_po : PySem.W.plainOver K C = true)
    (h_sa : PySem.W.findIn K (.ref C) "__setattr__" = some (some (.builtin "object.__setattr__")))
    (h_mk : PySem.W.makesIn K C = true)
    (h_kc : PySem.W.keepIn K (.ref C) = true)
    (h_n_people : PySem.W.findIn K (.ref C) "people" = some none)
    (h_n_meetings : PySem.W.findIn K (.ref C) "meetings" = some none)
    (h_m_Plan___init__ : PySem.W.findIn K (.ref C) "__init__" = some (some (.ref r_Plan___init__)))
    (h_i_Plan___init__ : PySem.W.isFn K (.ref r_Plan___init__) = true)
    (h_l_Plan___init__ : K.lookup r_Plan___init__ = some ⟨oc_Plan___init__, od_Plan___init__, .func (PySem.W.fnOf "__init__" "Plan.__init__" (defArgs s_Plan___init__) (defBody s_Plan___init__) (defScope s_Plan___init__) (.ref eT) kV_Plan___init__ dc_Plan___init__ pm_Plan___init__ an_Plan___init__ cd_Plan___init__ ct_Plan___init__), sl_Plan___init__⟩)
    (h_c_Plan___init__ : PySem.W.codeIn K cd_Plan___init__ "Plan.__init__" = true)
    (h_k_Plan___init__ : PySem.W.keepIn K (.ref r_Plan___init__) = true)
    (h_lT : K.lookup eT = some ⟨oc_T, od_T, .seq #[.ref ed] n_T, sl_T⟩)
    (h_le : K.lookup ed = some ⟨.type "tuple", od_e, .seq #[] n_e, sl_e⟩)
    (h_m_Plan_names : PySem.W.findIn K (.ref C) "names" = some (some (.ref q_Plan_names)))
    (h_g_Plan_names : PySem.W.specialIn K (.ref q_Plan_names) "__get__" = some (some (.builtin "property.__get__")))
    (h_t_Plan_names : PySem.W.takesIn K (.ref q_Plan_names) = some true)
    (h_e_Plan_names : PySem.W.recIn K q_Plan_names "property" = some (.ref r_Plan_names :: rest_Plan_names))
    (h_l_Plan_names : K.lookup r_Plan_names = some ⟨oc_Plan_names, od_Plan_names, .func (PySem.W.fnOf "names" "Plan.names" (defArgs s_Plan_names) (defBody s_Plan_names) (defScope s_Plan_names) .none kV_Plan_names dc_Plan_names pm_Plan_names an_Plan_names cd_Plan_names ct_Plan_names), sl_Plan_names⟩)
    (h_c_Plan_names : PySem.W.codeIn K cd_Plan_names "Plan.names" = true)
    (h_k_Plan_names : PySem.W.keepIn K (.ref r_Plan_names) = true)
    (h_z_abs : PySem.W.nsIn K mainGlobals "abs" = some none)
    (h_z_all : PySem.W.nsIn K mainGlobals "all" = some none)
    (h_z_bool : PySem.W.nsIn K mainGlobals "bool" = some none)
    (h_z_int : PySem.W.nsIn K mainGlobals "int" = some none)
    (h_z_isinstance : PySem.W.nsIn K mainGlobals "isinstance" = some none)
    (h_z_len : PySem.W.nsIn K mainGlobals "len" = some none)
    (h_z_list : PySem.W.nsIn K mainGlobals "list" = some none)
    (h_z_max : PySem.W.nsIn K mainGlobals "max" = some none)
    (h_z_min : PySem.W.nsIn K mainGlobals "min" = some none)
    (h_z_range : PySem.W.nsIn K mainGlobals "range" = some none)
    (h_z_sorted : PySem.W.nsIn K mainGlobals "sorted" = some none)
    (h_z_str : PySem.W.nsIn K mainGlobals "str" = some none)
    (h_z_tuple : PySem.W.nsIn K mainGlobals "tuple" = some none)
    (h_y_LETTERS : PySem.W.nsIn K mainGlobals "LETTERS" = some (some (.str "abcdefghijklmnopqrstuvwxyz" tk_LETTERS)))
    (h_y_MOST_LETTERS : PySem.W.nsIn K mainGlobals "MOST_LETTERS" = some (some (.int 4 tk_MOST_LETTERS)))
    : ∃ fd : FuncData, (∀ (s : Shared) (u : Value), BindsTo s fd ⟨[u], []⟩ [("_law_script", u)]) ∧ ∀ base : Heap, K.In base → base.Ns mainGlobals mg → FnD P w ⟨K, mg, fun _ _ _ => True⟩ base 8 fa fd ["_law_script"] sem_law := by
  have e := hfa.symm.trans (PySem.W.mg_of X G h_a_law)
  cases e
  have FL := fun_mk (st := s_law) h_l_law h_c_law h_k_law
  have F_Plan___init__ := funI_mk (st := s_Plan___init__) h_l_Plan___init__ h_c_Plan___init__ h_lT h_le h_k_Plan___init__
  have F_Plan_names := fun_mk (st := s_Plan_names) h_l_Plan_names h_c_Plan_names h_k_Plan_names
  have T : Txt ⟨K, mg, fun _ _ _ => True⟩ C ed r_Plan___init__ _ r_Plan_names _ q_Plan_names := { b_abs := PySem.W.mg_none_of X G h_z_abs, b_all := PySem.W.mg_none_of X G h_z_all, b_bool := PySem.W.mg_none_of X G h_z_bool, b_int := PySem.W.mg_none_of X G h_z_int, b_isinstance := PySem.W.mg_none_of X G h_z_isinstance, b_len := PySem.W.mg_none_of X G h_z_len, b_list := PySem.W.mg_none_of X G h_z_list, b_max := PySem.W.mg_none_of X G h_z_max, b_min := PySem.W.mg_none_of X G h_z_min, b_range := PySem.W.mg_none_of X G h_z_range, b_sorted := PySem.W.mg_none_of X G h_z_sorted, b_str := PySem.W.mg_none_of X G h_z_str, b_tuple := PySem.W.mg_none_of X G h_z_tuple, c_LETTERS := ⟨_, PySem.W.mg_of X G h_y_LETTERS⟩, c_MOST_LETTERS := ⟨_, PySem.W.mg_of X G h_y_MOST_LETTERS⟩, f_is_integer := ⟨_, _, PySem.W.mg_of X G h_a_is_integer, fun_mk (st := s_is_integer) h_l_is_integer h_c_is_integer h_k_is_integer⟩, f_is_length := ⟨_, _, PySem.W.mg_of X G h_a_is_length, fun_mk (st := s_is_length) h_l_is_length h_c_is_length h_k_is_length⟩, f_is_name := ⟨_, _, PySem.W.mg_of X G h_a_is_name, fun_mk (st := s_is_name) h_l_is_name h_c_is_name h_k_is_name⟩, f_is_number := ⟨_, _, PySem.W.mg_of X G h_a_is_number, fun_mk (st := s_is_number) h_l_is_number h_c_is_number h_k_is_number⟩, f_is_span := ⟨_, _, PySem.W.mg_of X G h_a_is_span, fun_mk (st := s_is_span) h_l_is_span h_c_is_span h_k_is_span⟩, f_is_person := ⟨_, _, PySem.W.mg_of X G h_a_is_person, fun_mk (st := s_is_person) h_l_is_person h_c_is_person h_k_is_person⟩, f_is_sequence := ⟨_, _, PySem.W.mg_of X G h_a_is_sequence, fun_mk (st := s_is_sequence) h_l_is_sequence h_c_is_sequence h_k_is_sequence⟩, f_are_people := ⟨_, _, PySem.W.mg_of X G h_a_are_people, fun_mk (st := s_are_people) h_l_are_people h_c_are_people h_k_are_people⟩, f_is_meeting := ⟨_, _, PySem.W.mg_of X G h_a_is_meeting, fun_mk (st := s_is_meeting) h_l_is_meeting h_c_is_meeting h_k_is_meeting⟩, f__law_seed := ⟨_, _, PySem.W.mg_of X G h_a__law_seed, fun_mk (st := s__law_seed) h_l__law_seed h_c__law_seed h_k__law_seed⟩, f_is_earlier := ⟨_, _, PySem.W.mg_of X G h_a_is_earlier, fun_mk (st := s_is_earlier) h_l_is_earlier h_c_is_earlier h_k_is_earlier⟩, f_need_same := ⟨_, _, PySem.W.mg_of X G h_a_need_same, fun_mk (st := s_need_same) h_l_need_same h_c_need_same h_k_need_same⟩, f_passed := ⟨_, _, PySem.W.mg_of X G h_a_passed, fun_mk (st := s_passed) h_l_passed h_c_passed h_k_passed⟩, f_days_by := ⟨_, _, PySem.W.mg_of X G h_a_days_by, fun_mk (st := s_days_by) h_l_days_by h_c_days_by h_k_days_by⟩, f_spans_of := ⟨_, _, PySem.W.mg_of X G h_a_spans_of, fun_mk (st := s_spans_of) h_l_spans_of h_c_spans_of h_k_spans_of⟩, f_turning_days := ⟨_, _, PySem.W.mg_of X G h_a_turning_days, fun_mk (st := s_turning_days) h_l_turning_days h_c_turning_days h_k_turning_days⟩, f_unlike_days := ⟨_, _, PySem.W.mg_of X G h_a_unlike_days, fun_mk (st := s_unlike_days) h_l_unlike_days h_c_unlike_days h_k_unlike_days⟩, f_sooner := ⟨_, _, PySem.W.mg_of X G h_a_sooner, fun_mk (st := s_sooner) h_l_sooner h_c_sooner h_k_sooner⟩, f_never_sooner := ⟨_, _, PySem.W.mg_of X G h_a_never_sooner, fun_mk (st := s_never_sooner) h_l_never_sooner h_c_never_sooner h_k_never_sooner⟩, f_alike := ⟨_, _, PySem.W.mg_of X G h_a_alike, fun_mk (st := s_alike) h_l_alike h_c_alike h_k_alike⟩, f__law_choose := ⟨_, _, PySem.W.mg_of X G h_a__law_choose, fun_mk (st := s__law_choose) h_l__law_choose h_c__law_choose h_k__law_choose⟩, f_law := ⟨_, _, PySem.W.mg_of X G h_a_law, fun_mk (st := s_law) h_l_law h_c_law h_k_law⟩, k_Plan := ⟨PySem.W.mg_of X G h_aC, h_pg, h_hd, h_po, h_sa⟩, n_Plan_people := h_n_people, n_Plan_meetings := h_n_meetings, f_Plan___init__ := F_Plan___init__, mk_Plan := ⟨h_mk, h_m_Plan___init__, h_i_Plan___init__, h_kc⟩, f_Plan_names := F_Plan_names, p_Plan_names := ⟨h_m_Plan_names, h_g_Plan_names, h_t_Plan_names, _, h_e_Plan_names⟩ }
  exact ⟨_, fun s u => .of_eq rfl, fun base _ _ => ok_law T FL⟩
end FbL
end

section
set_option Elab.async false
set_option maxRecDepth 100000

open PySem PySem.W PyProof.Rows in
set_option maxRecDepth 100000 in
set_option maxHeartbeats 0 in
theorem PySem.Challenge.cw_firstbore_k46_plans_of_far_days_compared_holds : PySem.Challenge.rw_firstbore_k46_plans_of_far_days_compared.Holds := by
  w_on; o_law; k_head; (case hw => w_witness2)
  k_fill
  refine Fb.end_walk (l := PySem.Challenge.rw_firstbore_k46_plans_of_far_days_compared) (n := 63) (k := 8) (x := "_law_script") (sem := FbL.sem_law) rfl (by decide) rfl ⟨rfl, by decide, by decide⟩ (fun w h Y => PySem.W.kIn_of Y) ?F FbL.law_true
  case F =>
    intro w mg fa h KX G hmg
    refine' FbL.all_mk KX G hmg ?h_a_is_integer ?h_l_is_integer ?h_c_is_integer ?h_k_is_integer ?h_a_is_length ?h_l_is_length ?h_c_is_length ?h_k_is_length ?h_a_is_name ?h_l_is_name ?h_c_is_name ?h_k_is_name ?h_a_is_number ?h_l_is_number ?h_c_is_number ?h_k_is_number ?h_a_is_span ?h_l_is_span ?h_c_is_span ?h_k_is_span ?h_a_is_person ?h_l_is_person ?h_c_is_person ?h_k_is_person ?h_a_is_sequence ?h_l_is_sequence ?h_c_is_sequence ?h_k_is_sequence ?h_a_are_people ?h_l_are_people ?h_c_are_people ?h_k_are_people ?h_a_is_meeting ?h_l_is_meeting ?h_c_is_meeting ?h_k_is_meeting ?h_a__law_seed ?h_l__law_seed ?h_c__law_seed ?h_k__law_seed ?h_a_is_earlier ?h_l_is_earlier ?h_c_is_earlier ?h_k_is_earlier ?h_a_need_same ?h_l_need_same ?h_c_need_same ?h_k_need_same ?h_a_passed ?h_l_passed ?h_c_passed ?h_k_passed ?h_a_days_by ?h_l_days_by ?h_c_days_by ?h_k_days_by ?h_a_spans_of ?h_l_spans_of ?h_c_spans_of ?h_k_spans_of ?h_a_turning_days ?h_l_turning_days ?h_c_turning_days ?h_k_turning_days ?h_a_unlike_days ?h_l_unlike_days ?h_c_unlike_days ?h_k_unlike_days ?h_a_sooner ?h_l_sooner ?h_c_sooner ?h_k_sooner ?h_a_never_sooner ?h_l_never_sooner ?h_c_never_sooner ?h_k_never_sooner ?h_a_alike ?h_l_alike ?h_c_alike ?h_k_alike ?h_a__law_choose ?h_l__law_choose ?h_c__law_choose ?h_k__law_choose ?h_a_law ?h_l_law ?h_c_law ?h_k_law ?h_aC ?h_pg ?h_hd ?h_po ?h_sa ?h_mk ?h_kc ?h_n_people ?h_n_meetings ?h_m_Plan___init__ ?h_i_Plan___init__ ?h_l_Plan___init__ ?h_c_Plan___init__ ?h_k_Plan___init__ ?h_lT ?h_le ?h_m_Plan_names ?h_g_Plan_names ?h_t_Plan_names ?h_e_Plan_names ?h_l_Plan_names ?h_c_Plan_names ?h_k_Plan_names ?h_z_abs ?h_z_all ?h_z_bool ?h_z_int ?h_z_isinstance ?h_z_len ?h_z_list ?h_z_max ?h_z_min ?h_z_range ?h_z_sorted ?h_z_str ?h_z_tuple ?h_y_LETTERS ?h_y_MOST_LETTERS
    (case h_a_is_integer => k_is)
    (case h_l_is_integer => k_is)
    (case h_c_is_integer => k_is)
    (case h_k_is_integer => k_is)
    (case h_a_is_length => k_is)
    (case h_l_is_length => k_is)
    (case h_c_is_length => k_is)
    (case h_k_is_length => k_is)
    (case h_a_is_name => k_is)
    (case h_l_is_name => k_is)
    (case h_c_is_name => k_is)
    (case h_k_is_name => k_is)
    (case h_a_is_number => k_is)
    (case h_l_is_number => k_is)
    (case h_c_is_number => k_is)
    (case h_k_is_number => k_is)
    (case h_a_is_span => k_is)
    (case h_l_is_span => k_is)
    (case h_c_is_span => k_is)
    (case h_k_is_span => k_is)
    (case h_a_is_person => k_is)
    (case h_l_is_person => k_is)
    (case h_c_is_person => k_is)
    (case h_k_is_person => k_is)
    (case h_a_is_sequence => k_is)
    (case h_l_is_sequence => k_is)
    (case h_c_is_sequence => k_is)
    (case h_k_is_sequence => k_is)
    (case h_a_are_people => k_is)
    (case h_l_are_people => k_is)
    (case h_c_are_people => k_is)
    (case h_k_are_people => k_is)
    (case h_a_is_meeting => k_is)
    (case h_l_is_meeting => k_is)
    (case h_c_is_meeting => k_is)
    (case h_k_is_meeting => k_is)
    (case h_a__law_seed => k_is)
    (case h_l__law_seed => k_is)
    (case h_c__law_seed => k_is)
    (case h_k__law_seed => k_is)
    (case h_a_is_earlier => k_is)
    (case h_l_is_earlier => k_is)
    (case h_c_is_earlier => k_is)
    (case h_k_is_earlier => k_is)
    (case h_a_need_same => k_is)
    (case h_l_need_same => k_is)
    (case h_c_need_same => k_is)
    (case h_k_need_same => k_is)
    (case h_a_passed => k_is)
    (case h_l_passed => k_is)
    (case h_c_passed => k_is)
    (case h_k_passed => k_is)
    (case h_a_days_by => k_is)
    (case h_l_days_by => k_is)
    (case h_c_days_by => k_is)
    (case h_k_days_by => k_is)
    (case h_a_spans_of => k_is)
    (case h_l_spans_of => k_is)
    (case h_c_spans_of => k_is)
    (case h_k_spans_of => k_is)
    (case h_a_turning_days => k_is)
    (case h_l_turning_days => k_is)
    (case h_c_turning_days => k_is)
    (case h_k_turning_days => k_is)
    (case h_a_unlike_days => k_is)
    (case h_l_unlike_days => k_is)
    (case h_c_unlike_days => k_is)
    (case h_k_unlike_days => k_is)
    (case h_a_sooner => k_is)
    (case h_l_sooner => k_is)
    (case h_c_sooner => k_is)
    (case h_k_sooner => k_is)
    (case h_a_never_sooner => k_is)
    (case h_l_never_sooner => k_is)
    (case h_c_never_sooner => k_is)
    (case h_k_never_sooner => k_is)
    (case h_a_alike => k_is)
    (case h_l_alike => k_is)
    (case h_c_alike => k_is)
    (case h_k_alike => k_is)
    (case h_a__law_choose => k_is)
    (case h_l__law_choose => k_is)
    (case h_c__law_choose => k_is)
    (case h_k__law_choose => k_is)
    (case h_a_law => k_is)
    (case h_l_law => k_is)
    (case h_c_law => k_is)
    (case h_k_law => k_is)
    (case h_aC => k_is)
    (case h_pg => k_is)
    (case h_hd => k_is)
    (case h_po => k_is)
    (case h_sa => k_is)
    (case h_mk => k_is)
    (case h_kc => k_is)
    (case h_n_people => k_is)
    (case h_n_meetings => k_is)
    (case h_m_Plan___init__ => k_is)
    (case h_i_Plan___init__ => k_is)
    (case h_l_Plan___init__ => k_is)
    (case h_c_Plan___init__ => k_is)
    (case h_k_Plan___init__ => k_is)
    (case h_lT => k_is)
    (case h_le => k_is)
    (case h_m_Plan_names => k_is)
    (case h_g_Plan_names => k_is)
    (case h_t_Plan_names => k_is)
    (case h_e_Plan_names => k_is)
    (case h_l_Plan_names => k_is)
    (case h_c_Plan_names => k_is)
    (case h_k_Plan_names => k_is)
    (case h_z_abs => k_is)
    (case h_z_all => k_is)
    (case h_z_bool => k_is)
    (case h_z_int => k_is)
    (case h_z_isinstance => k_is)
    (case h_z_len => k_is)
    (case h_z_list => k_is)
    (case h_z_max => k_is)
    (case h_z_min => k_is)
    (case h_z_range => k_is)
    (case h_z_sorted => k_is)
    (case h_z_str => k_is)
    (case h_z_tuple => k_is)
    (case h_y_LETTERS => k_is)
    (case h_y_MOST_LETTERS => k_is)
end
