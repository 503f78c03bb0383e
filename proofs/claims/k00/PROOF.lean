import PyProof.Rows.All
import Wide.All
import OpenK.AllK
import Wide.FinOn
import HandS.ForMost
import HandS.Exc
import HandS.ExcOwn
import HandS.Deep
import PyProof.StrBlock2
import HandS.TupAny
import HandS.Wide
import HandS.WideBits
import HandS.NoneIn
import HandS.CallSlots
import HandS.Defaults
import HandS.IsInst
import HandS.Conv
import HandS.More
import HandS.Style
import HandS.HeadHook2
import HandS.HeadEnd
import HandS.Codes
import HandS.WordsExc
import HandS.Head0
import HandS.Head1
import HandS.Head2
import PyProof.Rows.StrFit
import Lean
import PySem.Challenge.RW_drowsefolk_k00_names_and_numbers
set_option Elab.async false
set_option linter.all false
set_option maxRecDepth 100000
set_option maxHeartbeats 1000000
/-! The value layer: data without addresses (own or shared), slots, and how they lie in the abstract heap. -/
namespace VL
open PySem PySem.Spec L2

/-- the shape of an object -/
inductive Sh where
  | tup | lst | frz | kt | dk (ks : List Key) | dt (ks : List (List Key)) | ins (c : Str) (fs : List Str)
  deriving DecidableEq
/-- a value with all it holds; the flag of an object: held by its place alone (own), or shared -/
inductive D where
  | non | bl (b : Bool) | int (i : Int) | str (s : Str) | ty (n : String) | cl (c : Str) | obj (o : Bool) (s : Sh) (xs : List D)
abbrev D.tup (xs : List D) : D := .obj false .tup xs
abbrev D.lst (xs : List D) : D := .obj false .lst xs
abbrev D.olst (xs : List D) : D := .obj true .lst xs
def D.own : D → Bool
  | .obj o _ _ => o
  | _ => false
mutual
/-- all is shared from here on -/
def D.fz : D → D
  | .obj _ s xs => .obj false s (fzs xs)
  | .non => .non | .bl b => .bl b | .int i => .int i | .str s => .str s | .ty n => .ty n | .cl c => .cl c
def fzs : List D → List D
  | [] => []
  | x :: xs => x.fz :: fzs xs
end
theorem fzs_map : ∀ xs : List D, fzs xs = xs.map D.fz
  | [] => rfl
  | x :: xs => congrArg (x.fz :: ·) (fzs_map xs)
theorem fz_own (d : D) : d.fz.own = false := by cases d <;> simp [D.fz, D.own]

/-- an exception: its class, its fields -/
structure Ex where
  c : Str
  fs : List Str
  vs : List D
/-- names of classes to their addresses; the exceptions at hand -/
structure CMap where
  cls : Str → Option Addr
  xs : List (Ex × Value × Option Addr) := []
  /-- lists and tuples of the module -/
  kl : Addr → List V → Prop := fun _ _ => False
  kt : Addr → List V → Prop := fun _ _ => False
/-- .. are what the fragment holds -/
class CK (C : CMap) (K : PySem.W.Frag) : Prop where
  kl : ∀ a vs, C.kl a vs → ∃ (o : Obj) (its : Array Value) (n : Nat), K.lookup a = some o ∧ o.cls = .type "list" ∧ o.dict = none ∧ o.data = .seq its n ∧ its.size ≤ sizeLine ∧ Vals vs its.toList
  kt : ∀ a vs, C.kt a vs → ∃ (o : Obj) (its : Array Value) (n : Nat), K.lookup a = some o ∧ o.cls = .type "tuple" ∧ o.data = .seq its n ∧ its.size ≤ sizeLine ∧ Vals vs its.toList
/-- may be changed -/
def Sh.mutb : Sh → Bool
  | .tup => false
  | .frz => false
  | .kt => false
  | _ => true
/-- at a stands an object of the shape, its parts vs -/
def Std (C : CMap) (H : Hp) (a : Addr) : Sh → List V → Prop
  | .tup, vs => H a = some (.tup vs)
  | .kt, vs => C.kt a vs
  | .lst, vs => H a = some (.lst vs)
  | .frz, vs => (∃ o, H a = some (.frz o (.lst vs))) ∨ C.kl a vs
  | .dk ks, vs => ks.length = vs.length ∧ H a = some (.dK (ks.zip vs))
  | .dt ks, vs => ks.length = vs.length ∧ H a = some (.dT (ks.zip vs))
  | .ins c fs, vs => fs.length = vs.length ∧ ∃ (k : Addr) (dx : Addr), C.cls c = some k ∧ H a = some (.ins k dx (fs.zip vs))
abbrev AP := Addr → Prop
/-- a shared object is not one of W, or nobody can change it -/
def Av (C : CMap) (W : AP) (a : Addr) (s : Sh) (vs : List V) : Prop := ¬ W a ∨ (match s with
  | .kt => C.kt a vs
  | .frz => C.kl a vs
  | _ => False)
mutual
/-- the value v lies as d; fp: the addresses that it owns; W: what shared parts avoid -/
def Rep (C : CMap) (W : AP) (H : Hp) : D → V → List Addr → Prop
  | .non, v, fp => v = .non ∧ fp = []
  | .bl b, v, fp => v = .bl b ∧ fp = []
  | .int i, v, fp => v = .int i ∧ fp = []
  | .str s, v, fp => v = .str s ∧ fp = []
  | .ty n, v, fp => v = .ty n ∧ fp = []
  | .cl c, v, fp => (∃ k, C.cls c = some k ∧ v = .ref k) ∧ fp = []
  | .obj o s xs, v, fp => ∃ (a : Addr) (vs : List V) (fps : List Addr), v = .ref a ∧ Reps C W H xs vs fps ∧
      match o with
      | false => Std C H a s vs ∧ Av C W a s vs ∧ fps = [] ∧ fp = []
      | true => s.mutb = true ∧ Std C H a s vs ∧ fp = a :: fps
def Reps (C : CMap) (W : AP) (H : Hp) : List D → List V → List Addr → Prop
  | [], vs, fp => vs = [] ∧ fp = []
  | x :: xs, vs, fp => ∃ v r f1 f2, vs = v :: r ∧ Rep C W H x v f1 ∧ Reps C W H xs r f2 ∧ fp = f1 ++ f2
end

section
variable {C : CMap} {W W' : AP} {H H' : Hp}
theorem Std.has {a : Addr} {s : Sh} {vs : List V} (h : Std C H a s vs) (m : s.mutb = true) : ∃ o, H a = some o := by
  cases s with
  | tup => cases m
  | lst => exact ⟨_, h⟩
  | frz => cases m
  | kt => cases m
  | dk ks => exact ⟨_, h.2⟩
  | dt ks => exact ⟨_, h.2⟩
  | ins c fs => obtain ⟨_, k, dx, _, h⟩ := h; exact ⟨_, h⟩
theorem Av.to {a : Addr} {s : Sh} {vs : List V} (h : Av C W a s vs) (st : Std C H a s vs) (kw : ∀ a, (∃ o, H a = some o) → ¬ W a → ¬ W' a) : Av C W' a s vs := by
  rcases h with h | h
  · cases s with
    | tup => exact .inl (kw a ⟨_, st⟩ h)
    | kt => exact .inr st
    | frz => exact st.elim (fun ⟨o, e⟩ => .inl (kw a ⟨_, e⟩ h)) .inr
    | lst => exact .inl (kw a (Std.has st rfl) h)
    | dk ks => exact .inl (kw a (Std.has st rfl) h)
    | dt ks => exact .inl (kw a (Std.has st rfl) h)
    | ins c fs => exact .inl (kw a (Std.has st rfl) h)
  · exact .inr h
theorem Std.mv {a : Addr} {s : Sh} {vs : List V} (h : Std C H a s vs) (e : ∀ o, H a = some o → H' a = some o) : Std C H' a s vs := by
  cases s with
  | tup => exact e _ h
  | kt => exact h
  | lst => exact e _ h
  | frz => exact h.imp_left fun ⟨o, h⟩ => ⟨o, e _ h⟩
  | dk ks => exact ⟨h.1, e _ h.2⟩
  | dt ks => exact ⟨h.1, e _ h.2⟩
  | ins c fs => obtain ⟨l, k, dx, c, h⟩ := h; exact ⟨l, k, dx, c, e _ h⟩
theorem app_nil {α : Type} {a b : List α} (h : a ++ b = []) : a = [] ∧ b = [] := List.append_eq_nil_iff.mp h
/-- .. of a shared one -/
theorem Std.mvA {a : Addr} {s : Sh} {vs : List V} (h : Std C H a s vs) (v : Av C W a s vs) (e : ∀ o, H a = some o → ¬ W a → H' a = some o) : Std C H' a s vs := by
  rcases v with v | v
  · exact Std.mv h fun o q => e o q v
  · cases s with
    | kt => exact v
    | frz => exact .inr v
    | _ => exact v.elim
mutual
/-- what lies stays so: where the heap keeps what the value reads -/
theorem Rep.to : ∀ {d : D} {v : V} {fp : List Addr}, Rep C W H d v fp → (∀ a o, H a = some o → (¬ W a ∨ a ∈ fp) → H' a = some o) → (∀ a, (∃ o, H a = some o) → ¬ W a → ¬ W' a) → Rep C W' H' d v fp
  | .non, _, _, h, _, _ => h
  | .bl _, _, _, h, _, _ => h
  | .int _, _, _, h, _, _ => h
  | .str _, _, _, h, _, _ => h
  | .ty _, _, _, h, _, _ => h
  | .cl _, _, _, h, _, _ => h
  | .obj o s xs, v, fp, h, k, kw => by
    obtain ⟨a, vs, fps, rfl, hr, h⟩ := h
    cases o with
    | false =>
      obtain ⟨hs, hw, rfl, rfl⟩ := h
      exact ⟨a, vs, [], rfl, Reps.to hr (fun b o e q => k b o e (q.elim .inl fun z => nomatch z)) kw, Std.mvA hs hw fun o e n => k a o e (.inl n), Av.to hw hs kw, rfl, rfl⟩
    | true =>
      obtain ⟨ht, hs, rfl⟩ := h
      exact ⟨a, vs, fps, rfl, Reps.to hr (fun b o e q => k b o e (q.imp_right (List.mem_cons_of_mem _))) kw, ht, Std.mv hs fun o e => k a o e (.inr (List.mem_cons_self ..)), rfl⟩
theorem Reps.to : ∀ {ds : List D} {vs : List V} {fp : List Addr}, Reps C W H ds vs fp → (∀ a o, H a = some o → (¬ W a ∨ a ∈ fp) → H' a = some o) → (∀ a, (∃ o, H a = some o) → ¬ W a → ¬ W' a) → Reps C W' H' ds vs fp
  | [], _, _, h, _, _ => h
  | d :: ds, vs, fp, h, k, kw => by
    obtain ⟨v, r, f1, f2, rfl, h1, h2, rfl⟩ := h
    exact ⟨v, r, f1, f2, rfl, Rep.to h1 (fun b o e q => k b o e (q.imp_right (List.mem_append_left _))) kw, Reps.to h2 (fun b o e q => k b o e (q.imp_right (List.mem_append_right _))) kw, rfl⟩
end
/-- a shared value owns nothing -/
theorem Rep.sh {d : D} {v : V} {fp : List Addr} (h : Rep C W H d v fp) (o : d.own = false) : fp = [] := by
  cases d with
  | obj b s xs =>
    obtain rfl : b = false := o
    obtain ⟨a, vs, fps, rfl, hr, hs, hw, _, e⟩ := h
    exact e
  | _ => exact h.2
/-- all the addresses of a value that lies are there -/
theorem Rep.live {d : D} {v : V} {fp : List Addr} (h : Rep C W H d v fp) : ∀ a ∈ fp, ∃ o, H a = some o := by
  have main : ∀ n : Nat, (∀ (d : D) (v : V) (fp : List Addr), sizeOf d ≤ n → Rep C W H d v fp → ∀ a ∈ fp, ∃ o, H a = some o) ∧
      (∀ (ds : List D) (vs : List V) (fp : List Addr), sizeOf ds ≤ n → Reps C W H ds vs fp → ∀ a ∈ fp, ∃ o, H a = some o) := by
    intro n
    induction n with
    | zero =>
      refine ⟨fun d v fp z => ?_, fun ds v fp z => ?_⟩
      · cases d <;> simp at z
      · cases ds <;> simp at z
    | succ n ih =>
      refine ⟨fun d v fp z h a ha => ?_, fun ds vs fp z h a ha => ?_⟩
      · cases d with
        | obj o s xs =>
          obtain ⟨b, vs, fps, rfl, hr, h⟩ := h
          have z2 : sizeOf xs ≤ n := by simp at z; omega
          cases o with
          | false => obtain ⟨_, _, _, rfl⟩ := h; cases ha
          | true =>
            obtain ⟨hm, hs, rfl⟩ := h
            rcases List.mem_cons.mp ha with rfl | ha
            · exact Std.has hs hm
            · exact ih.2 xs vs fps z2 hr a ha
        | _ => obtain ⟨_, rfl⟩ := h; cases ha
      · cases ds with
        | nil => obtain ⟨_, rfl⟩ := h; cases ha
        | cons d ds =>
          obtain ⟨v, r, f1, f2, rfl, h1, h2, rfl⟩ := h
          have z2 : sizeOf d ≤ n ∧ sizeOf ds ≤ n := by simp at z; omega
          rcases List.mem_append.mp ha with ha | ha
          · exact ih.1 d v f1 z2.1 h1 a ha
          · exact ih.2 ds r f2 z2.2 h2 a ha
  exact (main (sizeOf d)).1 d v fp (Nat.le_refl _) h
mutual
/-- given away: all of it is shared now -/
theorem Rep.freeze : ∀ {d : D} {v : V} {fp : List Addr}, Rep C W H d v fp → (∀ a ∈ fp, ¬ W' a) → (∀ a, (∃ o, H a = some o) → ¬ W a → ¬ W' a) → Rep C W' H d.fz v []
  | .non, _, _, h, _, _ => ⟨h.1, rfl⟩
  | .bl _, _, _, h, _, _ => ⟨h.1, rfl⟩
  | .int _, _, _, h, _, _ => ⟨h.1, rfl⟩
  | .str _, _, _, h, _, _ => ⟨h.1, rfl⟩
  | .ty _, _, _, h, _, _ => ⟨h.1, rfl⟩
  | .cl _, _, _, h, _, _ => ⟨h.1, rfl⟩
  | .obj o s xs, v, fp, h, k, kw => by
    obtain ⟨a, vs, fps, rfl, hr, h⟩ := h
    cases o with
    | false =>
      obtain ⟨hs, hw, rfl, rfl⟩ := h
      exact ⟨a, vs, [], rfl, Reps.freeze hr (fun b z => nomatch z) kw, hs, Av.to hw hs kw, rfl, rfl⟩
    | true =>
      obtain ⟨ht, hs, rfl⟩ := h
      exact ⟨a, vs, [], rfl, Reps.freeze hr (fun b z => k b (List.mem_cons_of_mem _ z)) kw, hs, .inl (k a (List.mem_cons_self ..)), rfl, rfl⟩
theorem Reps.freeze : ∀ {ds : List D} {vs : List V} {fp : List Addr}, Reps C W H ds vs fp → (∀ a ∈ fp, ¬ W' a) → (∀ a, (∃ o, H a = some o) → ¬ W a → ¬ W' a) → Reps C W' H (fzs ds) vs []
  | [], _, _, h, _, _ => ⟨h.1, rfl⟩
  | d :: ds, vs, fp, h, k, kw => by
    obtain ⟨v, r, f1, f2, rfl, h1, h2, rfl⟩ := h
    exact ⟨v, r, [], [], rfl, Rep.freeze h1 (fun b z => k b (List.mem_append_left _ z)) kw, Reps.freeze h2 (fun b z => k b (List.mem_append_right _ z)) kw, rfl⟩
end
theorem Reps.length : ∀ {ds : List D} {vs : List V} {fp : List Addr}, Reps C W H ds vs fp → vs.length = ds.length
  | [], _, _, h => by rw [h.1]; rfl
  | d :: ds, vs, fp, h => by
    obtain ⟨v, r, f1, f2, rfl, h1, h2, rfl⟩ := h
    exact congrArg (· + 1) (Reps.length h2)
/-- the i-th part -/
theorem Reps.at : ∀ {ds : List D} {vs : List V} {fp : List Addr} {i : Nat} {d : D}, Reps C W H ds vs fp → ds[i]? = some d → ∃ v f, vs[i]? = some v ∧ Rep C W H d v f ∧ ∀ a ∈ f, a ∈ fp
  | [], _, _, _, _, _, e => by simp at e
  | x :: ds, vs, fp, 0, d, h, e => by
    obtain ⟨v, r, f1, f2, rfl, h1, h2, rfl⟩ := h
    simp at e; subst e
    exact ⟨v, f1, rfl, h1, fun a z => List.mem_append_left _ z⟩
  | x :: ds, vs, fp, i + 1, d, h, e => by
    obtain ⟨v, r, f1, f2, rfl, h1, h2, rfl⟩ := h
    obtain ⟨u, f, q1, q2, q3⟩ := Reps.at (i := i) h2 (by simpa using e)
    exact ⟨u, f, by simpa using q1, q2, fun a z => List.mem_append_right _ (q3 a z)⟩
/-- shared parts, one behind another -/
theorem Reps.sh_cons {d : D} {ds : List D} {v : V} {vs : List V} (h1 : Rep C W H d v []) (h2 : Reps C W H ds vs []) : Reps C W H (d :: ds) (v :: vs) [] := ⟨v, vs, [], [], rfl, h1, h2, rfl⟩
theorem Reps.app : ∀ {ds es : List D} {vs us : List V} {f g : List Addr}, Reps C W H ds vs f → Reps C W H es us g → Reps C W H (ds ++ es) (vs ++ us) (f ++ g)
  | [], _, _, _, _, _, h, k => by obtain ⟨rfl, rfl⟩ := h; exact k
  | d :: ds, es, vs, us, f, g, h, k => by
    obtain ⟨v, r, f1, f2, rfl, h1, h2, rfl⟩ := h
    exact ⟨v, r ++ us, f1, f2 ++ g, rfl, h1, Reps.app h2 k, by rw [List.append_assoc]⟩
/-- the parts of shared ones are shared -/
theorem Reps.nil_cons {d : D} {ds : List D} {vs : List V} (h : Reps C W H (d :: ds) vs []) : ∃ v r, vs = v :: r ∧ Rep C W H d v [] ∧ Reps C W H ds r [] := by
  obtain ⟨v, r, f1, f2, rfl, h1, h2, e⟩ := h
  obtain ⟨rfl, rfl⟩ := app_nil e.symm
  exact ⟨v, r, rfl, h1, h2⟩
theorem Rep.nil_own {d : D} {v : V} (h : Rep C W H d v []) : d.own = false := by
  cases d with
  | obj b s xs =>
    obtain ⟨a, vs, fps, rfl, hr, h⟩ := h
    cases b with
    | false => rfl
    | true => obtain ⟨_, _, e⟩ := h; cases e
  | _ => rfl
/-- the exception x stands behind cls, d: its dict is nobody's -/
def ExR (C : CMap) (W : AP) (x : Ex) (cls : Value) (d : Option Addr) (H : Hp) : Prop :=
  ∃ (k dd : Addr) (us : List V), C.cls x.c = some k ∧ cls = .ref k ∧ d = some dd ∧ x.fs.length = us.length ∧ H dd = some (.xd (x.fs.zip us)) ∧ ¬ W dd ∧ Reps C W H x.vs us []
theorem ExR.to {x : Ex} {cls : Value} {d : Option Addr} (h : ExR C W x cls d H) (k : ∀ a o, H a = some o → ¬ W a → H' a = some o) (kw : ∀ a, (∃ o, H a = some o) → ¬ W a → ¬ W' a) : ExR C W' x cls d H' := by
  obtain ⟨c, dd, us, e1, e2, e3, e4, e5, e6, e7⟩ := h
  exact ⟨c, dd, us, e1, e2, e3, e4, k _ _ e5 e6, kw _ ⟨_, e5⟩ e6, e7.to (fun a o e q => k a o e (q.elim id fun z => nomatch z)) kw⟩
end
end VL

set_option Elab.async false
set_option linter.all false
set_option maxRecDepth 100000
set_option maxHeartbeats 1000000
/-! The state of a body: its slots, what they own; outcomes; what it is for an expression to do what a value program says. -/
namespace VL
open PySem PySem.Spec L2

abbrev G := List (Option D)
abbrev Ow := Nat → List Addr
def inO (o : Ow) : AP := fun a => ∃ i, a ∈ o i
def por (A : AP) (f : List Addr) : AP := fun a => A a ∨ a ∈ f
def W2 (A : AP) (o : Ow) : AP := fun a => A a ∨ inO o a
theorem por_nil {A : AP} : por A [] = A := funext fun a => propext ⟨fun h => h.elim id fun z => (nomatch z), fun h => .inl h⟩
/-- the slots hold what g says. B: slots that stay as they are; A: what others own -/
structure R (C : CMap) (B : List (Nat × V)) (A : AP) (H : Hp) (σ : L2.St) (g : G) (o : Ow) : Prop where
  len : σ.length = g.length
  sl : ∀ i d, g[i]? = some (some d) → ∃ v, σ[i]? = some (some v) ∧ Rep C (W2 A o) H d v (o i)
  nd : ∀ i, (o i).Nodup
  dj : ∀ i j a, a ∈ o i → a ∈ o j → i = j
  dA : ∀ i a, a ∈ o i → ¬ A a
  lv : ∀ i a, a ∈ o i → ∃ x, H a = some x
  lA : ∀ a, A a → ∃ x, H a = some x
  bd : ∀ p ∈ B, σ[p.1]? = some (some p.2)
  xh : ∀ p ∈ C.xs, ExR C (W2 A o) p.1 p.2.1 p.2.2 H
/-- the heap went on: F may have changed, F' may change from now on -/
structure Ext (F F' : AP) (H H' : Hp) : Prop where
  keep : ∀ a x, H a = some x → ¬ F a → H' a = some x
  new : ∀ a, F' a → F a ∨ H a = none
theorem Ext.refl {F : AP} {H : Hp} : Ext F F H H := ⟨fun _ _ e _ => e, fun _ h => .inl h⟩
theorem Ext.trans {F F' F2 : AP} {H H' H2 : Hp} (a : Ext F F' H H') (b : Ext F' F2 H' H2) (lv : ∀ a, F a → ∃ x, H a = some x) : Ext F F2 H H2 where
  keep c x e n := b.keep c x (a.keep c x e n) fun z => (a.new c z).elim n fun q => by rw [e] at q; cases q
  new c h := by
    rcases b.new c h with z | z
    · exact a.new c z
    · cases q : H c with
      | none => exact .inr rfl
      | some x =>
        refine .inl (Classical.byContradiction fun n => ?_)
        rw [a.keep c x q n] at z
        cases z
theorem Ext.mono {F F' F2 : AP} {H H' : Hp} (a : Ext F F' H H') (h : ∀ c, F2 c → F' c) : Ext F F2 H H' := ⟨a.keep, fun c z => a.new c (h c z)⟩
theorem Ext.monoL {F F' F2 : AP} {H H' : Hp} (a : Ext F F' H H') (h : ∀ c, F c → F2 c) : Ext F2 F' H H' := ⟨fun c x e n => a.keep c x e fun z => n (h c z), fun c z => (a.new c z).imp_left (h c)⟩

/-- a value at hand: shared; new and nobody else's; what stands in a slot -/
inductive RV where
  | sh (d : D) | ow (d : D) | pl (i : Nat)
inductive Out (α : Type) where
  | ok (a : α) (g : G) | exc (x : Ex) (g : G) | stuck
abbrev M (α : Type) := G → Out α
def M.bind {α β : Type} (m : M α) (f : α → M β) : M β := fun g => match m g with
  | .ok a g' => f a g'
  | .exc x g' => .exc x g'
  | .stuck => .stuck
def M.pure {α : Type} (a : α) : M α := fun g => .ok a g
def M.stuck {α : Type} : M α := fun _ => .stuck
instance : Monad M where
  pure := M.pure
  bind := M.bind
/-- an option: its value, or stuck -/
def M.of {α : Type} : Option α → M α
  | some a => M.pure a
  | none => M.stuck
/-- an operand: what is new is shared from here on -/
def settle : RV → RV
  | .ow d => .sh d.fz
  | r => r
def M.opd (m : M RV) : M RV := fun g => match m g with
  | .ok r g' => .ok (settle r) g'
  | .exc x g' => .exc x g'
  | .stuck => .stuck
/-- what it is now -/
def RV.at (g : G) : RV → Option D
  | .sh d => some d
  | .ow d => some d
  | .pl i => (g[i]?).join

section
variable (C : CMap)
def RVR (A : AP) (o : Ow) (H : Hp) (σ : L2.St) (g : G) : RV → V → List Addr → Prop
  | .sh d, v, fr => fr = [] ∧ Rep C (W2 A o) H d v []
  | .ow d, v, fr => fr.Nodup ∧ (∀ a ∈ fr, ¬ A a ∧ ¬ inO o a) ∧ Rep C (W2 (por A fr) o) H d v fr
  | .pl i, v, fr => fr = [] ∧ (∃ d, g[i]? = some (some d)) ∧ σ[i]? = some (some v)
/-- what is asked of an outcome -/
def PostE (B : List (Nat × V)) (A : AP) (W : WX) (σ : L2.St) (o : Ow) (H : Hp) (Q : VK) : Out RV → Prop
  | .ok rv g' => ∀ v H' o' fr, R C B (por A fr) H' σ g' o' → Ext (inO o) (fun a => inO o' a ∨ a ∈ fr) H H' → RVR C A o' H' σ g' rv v fr → Q v H'
  | .exc x g' => ∀ cls d H' o', R C B A H' σ g' o' → Ext (inO o) (inO o') H H' → ExR C (W2 A o') x cls d H' → W cls d σ H'
  | .stuck => False
/-- e does what m says -/
def VE (X : Cx) (e : Expr) (m : M RV) : Prop :=
  ∀ W : WX, Takes X W → ∃ t : TE, PE X e t ∧ ∀ B A σ H g o Q, R C B A H σ g o → PostE C B A W σ o H Q (m g) → t σ H Q
end

section
variable {C : CMap} {B : List (Nat × V)} {A A' : AP} {H H' : Hp} {σ : L2.St} {g g' : G} {o o' : Ow} {fr : List Addr}
theorem R.lo (r : R C B A H σ g o) : ∀ a, inO o a → ∃ x, H a = some x := fun a ⟨i, h⟩ => r.lv i a h
theorem R.lW (r : R C B A H σ g o) : ∀ a, W2 A o a → ∃ x, H a = some x := fun a h => h.elim (r.lA a) (r.lo a)
/-- others own less -/
theorem R.less (r : R C B A H σ g o) (h : ∀ a, A' a → A a) : R C B A' H σ g o where
  len := r.len
  sl i d e := by
    obtain ⟨v, e1, q⟩ := r.sl i d e
    exact ⟨v, e1, q.to (fun _ _ e _ => e) fun a _ n z => n (z.imp_left (h a))⟩
  nd := r.nd
  dj := r.dj
  dA i a z q := r.dA i a z (h a q)
  lv := r.lv
  lA a q := r.lA a (h a q)
  bd := r.bd
  xh p hp := (r.xh p hp).to (fun _ _ e _ => e) fun a _ n z => n (z.imp_left (h a))
theorem R.unfr (r : R C B (por A fr) H σ g o) : R C B A H σ g o := r.less fun _ => .inl
/-- the heap grows at a new place -/
theorem R.new (r : R C B A H σ g o) {p : Addr} {x : HO} (hp : H p = none) : R C B (por A [p]) (upd H p x) σ g o where
  len := r.len
  sl i d e := by
    obtain ⟨v, e1, q⟩ := r.sl i d e
    refine ⟨v, e1, q.to (fun a y ey _ => by rw [upd_ne (ne_of_none ey hp)]; exact ey) fun a ⟨y, ey⟩ n z => ?_⟩
    rcases z with z | z
    · rcases z with z | z
      · exact n (.inl z)
      · obtain rfl : a = p := by simpa using z
        rw [hp] at ey; cases ey
    · exact n (.inr z)
  nd := r.nd
  dj := r.dj
  dA i a z q := by
    rcases q with q | q
    · exact r.dA i a z q
    · obtain rfl : a = p := by simpa using q
      obtain ⟨y, ey⟩ := r.lv i a z
      rw [hp] at ey; cases ey
  lv i a z := by
    obtain ⟨y, ey⟩ := r.lv i a z
    exact ⟨y, by rw [upd_ne (ne_of_none ey hp)]; exact ey⟩
  lA a q := by
    rcases q with q | q
    · obtain ⟨y, ey⟩ := r.lA a q
      exact ⟨y, by rw [upd_ne (ne_of_none ey hp)]; exact ey⟩
    · obtain rfl : a = p := by simpa using q
      exact ⟨x, upd_same⟩
  bd := r.bd
  xh q hq := (r.xh q hq).to (fun a y ey _ => by rw [upd_ne (ne_of_none ey hp)]; exact ey) fun a ⟨y, ey⟩ n z => by
    rcases z with (z | z) | z
    · exact n (.inl z)
    · obtain rfl : a = p := by simpa using z
      rw [hp] at ey; cases ey
    · exact n (.inr z)
theorem R.new0 (r : R C B A H σ g o) {p : Addr} {x : HO} (hp : H p = none) : R C B A (upd H p x) σ g o := (r.new hp).unfr
theorem Ext.alloc {p : Addr} {x : HO} {F : AP} (hp : H p = none) : Ext F (fun a => F a ∨ a ∈ [p]) H (upd H p x) where
  keep a y e _ := by rw [upd_ne (ne_of_none e hp)]; exact e
  new a h := h.imp_right fun z => by
    obtain rfl : a = p := by simpa using z
    exact hp
theorem Ext.alloc0 {p : Addr} {x : HO} {F : AP} (hp : H p = none) : Ext F F H (upd H p x) := (Ext.alloc hp).mono fun _ => .inl
theorem Rep.grow {W W' : AP} {d : D} {v : V} {f : List Addr} {p : Addr} {x : HO} (h : Rep C W H d v f) (hp : H p = none) (hw : ∀ a, W' a → W a ∨ a = p) : Rep C W' (upd H p x) d v f :=
  h.to (fun a y ey _ => by rw [upd_ne (ne_of_none ey hp)]; exact ey) fun a ⟨y, ey⟩ n z => (hw a z).elim n fun e => by
    subst e; rw [hp] at ey; cases ey
theorem Reps.grow {W W' : AP} {d : List D} {v : List V} {f : List Addr} {p : Addr} {x : HO} (h : Reps C W H d v f) (hp : H p = none) (hw : ∀ a, W' a → W a ∨ a = p) : Reps C W' (upd H p x) d v f :=
  h.to (fun a y ey _ => by rw [upd_ne (ne_of_none ey hp)]; exact ey) fun a ⟨y, ey⟩ n z => (hw a z).elim n fun e => by
    subst e; rw [hp] at ey; cases ey
/-- a shared value stays through what happens -/
theorem Rep.stay (r : R C B A H σ g o) {F' : AP} {d : D} {v : V} (h : Rep C (W2 A o) H d v []) (e : Ext (inO o) F' H H') (hW : ∀ a, F' a → True) {o' : Ow} (hF : ∀ a, inO o' a → F' a) : Rep C (W2 A o') H' d v [] :=
  h.to (fun a y ey q => e.keep a y ey fun z => (q.elim (fun n => n (.inr z)) fun z => nomatch z)) fun a ⟨y, ey⟩ n z => by
    rcases z with z | z
    · exact n (.inl z)
    · rcases e.new a (hF a z) with q | q
      · exact n (.inr q)
      · rw [ey] at q; cases q
/-- a new object of shared parts, nobody's but ours -/
theorem RVR.newObj (r : R C B A H σ g o) {p : Addr} {x : HO} {s : Sh} {ds : List D} {vs : List V} (hp : H p = none) (hs : s.mutb = true) (st : Std C (upd H p x) p s vs) (h : Reps C (W2 A o) H ds vs []) :
    RVR C A o (upd H p x) σ g (.ow (.obj true s ds)) (.ref p) [p] := by
  refine ⟨by simp, fun a z => ?_, p, vs, [], rfl, h.grow hp fun a z => ?_, hs, st, rfl⟩
  · obtain rfl : a = p := by simpa using z
    refine ⟨fun q => ?_, fun q => ?_⟩
    · obtain ⟨y, ey⟩ := r.lA a q
      rw [hp] at ey; cases ey
    · obtain ⟨y, ey⟩ := r.lo a q
      rw [hp] at ey; cases ey
  · rcases z with z | z
    · rcases z with z | z
      · exact .inl (.inl z)
      · exact .inr (by simpa using z)
    · exact .inl (.inr z)
/-- a new tuple of shared parts -/
theorem RVR.newTup (r : R C B A H σ g o) {p : Addr} {ds : List D} {vs : List V} (hp : H p = none) (h : Reps C (W2 A o) H ds vs []) :
    RVR C A o (upd H p (.tup vs)) σ g (.sh (.obj false .tup ds)) (.ref p) [] := by
  refine ⟨rfl, p, vs, [], rfl, h.grow hp fun a z => .inl z, upd_same, .inl fun q => ?_, rfl, rfl⟩
  obtain ⟨y, ey⟩ := r.lW p q
  rw [hp] at ey; cases ey
/-- the settled one -/
theorem RVR.settle (r : R C B (por A fr) H σ g o) {rv : RV} {v : V} (h : RVR C A o H σ g rv v fr) : R C B A H σ g o ∧ RVR C A o H σ g (settle rv) v [] := by
  refine ⟨r.unfr, ?_⟩
  cases rv with
  | sh d => obtain ⟨rfl, h⟩ := h; exact ⟨rfl, h⟩
  | pl i => obtain ⟨rfl, h⟩ := h; exact ⟨rfl, h⟩
  | ow d =>
    obtain ⟨n, q, h⟩ := h
    exact ⟨rfl, h.freeze (fun a z w => w.elim (q a z).1 (q a z).2) fun a _ n z => n (z.imp_left .inl)⟩
/-- what it is at hand, now -/
theorem RVR.rep (r : R C B A H σ g o) {rv : RV} {v : V} {d : D} (h : RVR C A o H σ g rv v []) (e : rv.at g = some d) : ∃ f, Rep C (W2 A o) H d v f ∧ ((f = [] ∧ d.own = false) ∨ ∃ i, rv = .pl i ∧ g[i]? = some (some d) ∧ f = o i ∧ σ[i]? = some (some v)) := by
  cases rv with
  | sh x =>
    obtain ⟨_, h⟩ := h
    cases e
    exact ⟨[], h, .inl ⟨rfl, h.nil_own⟩⟩
  | ow x =>
    obtain ⟨_, _, h⟩ := h
    rw [por_nil] at h
    cases e
    exact ⟨[], h, .inl ⟨rfl, h.nil_own⟩⟩
  | pl i =>
    obtain ⟨_, ⟨d', e'⟩, hv⟩ := h
    have : d' = d := by
      have e : (g[i]?).join = some d := e
      rw [e'] at e
      exact Option.some.inj e
    subst this
    obtain ⟨u, hu, q⟩ := r.sl i d' e'
    rw [hv] at hu; cases hu
    exact ⟨o i, q, .inr ⟨i, rfl, e', rfl, hv⟩⟩
/-- an operand stays through what happens (its slot is not changed by an expression) -/
theorem RVR.stay (r : R C B A H σ g o) (r' : R C B A H' σ g' o') {rv : RV} {v : V} (h : RVR C A o H σ g rv v []) (e : Ext (inO o) (inO o') H H') (hg : ∀ i, rv = .pl i → ∃ d, g'[i]? = some (some d)) (nw : ∀ d, rv ≠ .ow d) : RVR C A o' H' σ g' rv v [] := by
  cases rv with
  | sh d => exact ⟨rfl, Rep.stay r h.2 e (fun _ _ => trivial) fun _ z => z⟩
  | ow d => exact absurd rfl (nw d)
  | pl i => exact ⟨rfl, hg i rfl, h.2.2⟩
end
end VL

set_option Elab.async false
set_option linter.all false
set_option maxRecDepth 100000
set_option maxHeartbeats 1000000
/-! Rules of expressions: names, constants, operands, operators. -/
namespace VL
open PySem PySem.Spec L2

section
variable {C : CMap} {X : Cx}
/-- an operand -/
def PostO (C : CMap) (B : List (Nat × V)) (A : AP) (W : WX) (σ : L2.St) (o : Ow) (H : Hp) (Q : VK) : Out RV → Prop
  | .ok rv g' => ∀ v H' o', R C B A H' σ g' o' → Ext (inO o) (inO o') H H' → RVR C A o' H' σ g' rv v [] → Q v H'
  | .exc x g' => ∀ cls d H' o', R C B A H' σ g' o' → Ext (inO o) (inO o') H H' → ExR C (W2 A o') x cls d H' → W cls d σ H'
  | .stuck => False
def VO (C : CMap) (X : Cx) (e : Expr) (m : M RV) : Prop :=
  ∀ W : WX, Takes X W → ∃ t : TE, PE X e t ∧ ∀ B A σ H g o Q, R C B A H σ g o → PostO C B A W σ o H Q (m g) → t σ H Q
theorem VE.opd {e : Expr} {m : M RV} (h : VE C X e m) : VO C X e (M.opd m) := fun W tk => by
  obtain ⟨t, p, q⟩ := h W tk
  refine ⟨t, p, fun B A σ H g o Q r po => q B A σ H g o Q r ?_⟩
  unfold M.opd at po
  cases e : m g with
  | ok rv g' =>
    rw [e] at po
    intro v H' o' fr r' x rr
    obtain ⟨r2, rr2⟩ := RVR.settle r' rr
    exact po v H' o' r2 (x.mono fun _ => .inl) rr2
  | exc x g' => rw [e] at po; exact po
  | stuck => rw [e] at po; exact po
/-- an operand list -/
def RVRs (C : CMap) (A : AP) (o : Ow) (H : Hp) (σ : L2.St) (g : G) : List RV → List V → Prop
  | [], vs => vs = []
  | rv :: rs, vs => ∃ v r, vs = v :: r ∧ RVR C A o H σ g rv v [] ∧ RVRs C A o H σ g rs r
def PostA (C : CMap) (B : List (Nat × V)) (A : AP) (W : WX) (σ : L2.St) (o : Ow) (H : Hp) (Q : List V → Hp → Prop) : Out (List RV) → Prop
  | .ok rvs g' => ∀ vs H' o', R C B A H' σ g' o' → Ext (inO o) (inO o') H H' → RVRs C A o' H' σ g' rvs vs → Q vs H'
  | .exc x g' => ∀ cls d H' o', R C B A H' σ g' o' → Ext (inO o) (inO o') H H' → ExR C (W2 A o') x cls d H' → W cls d σ H'
  | .stuck => False
def VA (C : CMap) (X : Cx) (es : List Expr) (m : M (List RV)) : Prop :=
  ∀ W : WX, Takes X W → ∃ t : TA, PA X es t ∧ ∀ B A σ H g o Q, R C B A H σ g o → PostA C B A W σ o H Q (m g) → t σ H Q
/-- the operand may still be read: a slot is not emptied -/
def RV.live (g : G) : RV → Bool
  | .pl i => (g[i]?).join.isSome
  | .sh _ => true
  | .ow _ => false
theorem RVR.stay2 {B : List (Nat × V)} {A : AP} {H H' : Hp} {σ : L2.St} {g g' : G} {o o' : Ow} (r : R C B A H σ g o) (r' : R C B A H' σ g' o') {rv : RV} {v : V} (h : RVR C A o H σ g rv v []) (e : Ext (inO o) (inO o') H H') (l : rv.live g' = true) : RVR C A o' H' σ g' rv v [] := by
  refine h.stay r r' e (fun i q => ?_) fun d q => ?_
  · subst q
    have l : (g'[i]?).join.isSome = true := l
    cases z : g'[i]? with
    | none => rw [z] at l; cases l
    | some y =>
      rw [z] at l
      cases y with
      | none => cases l
      | some d => exact ⟨d, rfl⟩
  · subst q; cases l
def M.cons (m : M RV) (k : M (List RV)) : M (List RV) := M.bind m fun x => M.bind k fun xs => fun g => if x.live g = true then .ok (x :: xs) g else .stuck
theorem va_nil : VA C X [] (M.pure []) := fun W tk => ⟨tNil, pa_nil, fun B A σ H g o Q r po => po [] H o r .refl rfl⟩
/-- e is written without a star -/
def noStar : Expr → Bool
  | .Starred .. => false
  | _ => true
theorem starEach_plain {e : Expr} {es : List Expr} {env : Env} (h : noStar e = true) : starEach (e :: es) env = (false, eval e env) :: starEach es env := by
  cases e <;> first | rfl | cases h
theorem va_cons {e : Expr} {es : List Expr} {m : M RV} {k : M (List RV)} (he : VO C X e m) (hes : VA C X es k) (hs : noStar e = true) : VA C X (e :: es) (M.cons m k) := fun W tk => by
  obtain ⟨t, p, q⟩ := he W tk
  obtain ⟨u, p2, q2⟩ := hes W tk
  refine ⟨tCons t u, pa_cons p p2 (starEach_plain hs), fun B A σ H g o Q r po => ?_⟩
  refine q B A σ H g o _ r ?_
  unfold M.cons M.bind at po
  cases e1 : m g with
  | ok x g1 =>
    rw [e1] at po
    intro v H1 o1 r1 x1 rr1
    refine q2 B A σ H1 g1 o1 _ r1 ?_
    dsimp only at po
    cases e2 : k g1 with
    | ok xs g2 =>
      rw [e2] at po
      intro vs H2 o2 r2 x2 rr2
      dsimp only at po
      cases l : x.live g2 with
      | true =>
        rw [l, if_pos rfl] at po
        exact po (v :: vs) H2 o2 r2 (x1.trans x2 r.lo) ⟨v, vs, rfl, rr1.stay2 r1 r2 x2 l, rr2⟩
      | false => rw [l, if_neg Bool.false_ne_true] at po; exact po.elim
    | exc x g2 =>
      rw [e2] at po
      intro cls d H2 o2 r2 x2 ex
      exact po cls d H2 o2 r2 (x1.trans x2 r.lo) ex
    | stuck => rw [e2] at po; exact po
  | exc x g1 => rw [e1] at po; exact po
  | stuck => rw [e1] at po; exact po
/-- two operands -/
def M.two (a b : M RV) : M (RV × RV) := M.bind a fun x => M.bind b fun y => fun g => if x.live g = true then .ok (x, y) g else .stuck
def PostT (C : CMap) (B : List (Nat × V)) (A : AP) (W : WX) (σ : L2.St) (o : Ow) (H : Hp) (Q : V → V → Hp → Prop) : Out (RV × RV) → Prop
  | .ok (x, y) g' => ∀ u v H' o', R C B A H' σ g' o' → Ext (inO o) (inO o') H H' → RVR C A o' H' σ g' x u [] → RVR C A o' H' σ g' y v [] → Q u v H'
  | .exc x g' => ∀ cls d H' o', R C B A H' σ g' o' → Ext (inO o) (inO o') H H' → ExR C (W2 A o') x cls d H' → W cls d σ H'
  | .stuck => False
theorem v_two {a b : Expr} {ma mb : M RV} (ha : VO C X a ma) (hb : VO C X b mb) : ∀ W : WX, Takes X W → ∃ ta tb : TE, PE X a ta ∧ PE X b tb ∧
    ∀ B A σ H g o (Q : V → V → Hp → Prop), R C B A H σ g o → PostT C B A W σ o H Q (M.two ma mb g) → ta σ H fun x H1 => tb σ H1 fun y H2 => Q x y H2 := fun W tk => by
  obtain ⟨t, p, q⟩ := ha W tk
  obtain ⟨u, p2, q2⟩ := hb W tk
  refine ⟨t, u, p, p2, fun B A σ H g o Q r po => ?_⟩
  refine q B A σ H g o _ r ?_
  unfold M.two M.bind at po
  cases e1 : ma g with
  | ok x g1 =>
    rw [e1] at po
    intro v H1 o1 r1 x1 rr1
    refine q2 B A σ H1 g1 o1 _ r1 ?_
    dsimp only at po
    cases e2 : mb g1 with
    | ok y g2 =>
      rw [e2] at po
      intro w H2 o2 r2 x2 rr2
      dsimp only at po
      cases l : x.live g2 with
      | true =>
        rw [l, if_pos rfl] at po
        exact po v w H2 o2 r2 (x1.trans x2 r.lo) (rr1.stay2 r1 r2 x2 l) rr2
      | false => rw [l, if_neg Bool.false_ne_true] at po; exact po.elim
    | exc x g2 =>
      rw [e2] at po
      intro cls d H2 o2 r2 x2 ex
      exact po cls d H2 o2 r2 (x1.trans x2 r.lo) ex
    | stuck => rw [e2] at po; exact po
  | exc x g1 => rw [e1] at po; exact po
  | stuck => rw [e1] at po; exact po

/-! ### what an operation does, by values -/
/-- the outcome of an operation that changes no slot -/
def res (C : CMap) (B : List (Nat × V)) (A : AP) (σ : L2.St) (o : Ow) (H : Hp) (g : G) (Q : VK) : Option RV → Prop
  | some rv => ∀ v H' fr, R C B (por A fr) H' σ g o → Ext (inO o) (fun a => inO o a ∨ a ∈ fr) H H' → RVR C A o H' σ g rv v fr → Q v H'
  | none => False
/-- a two-place operation f does vf -/
def V2 (C : CMap) (X : Cx) (f : Value → Value → Sem Value) (vf : D → D → Option RV) : Prop :=
  ∃ r : R2, OpR X f r ∧ ∀ B A σ H g o Q x y dx dy fx fy, R C B A H σ g o → Rep C (W2 A o) H dx x fx → Rep C (W2 A o) H dy y fy → res C B A σ o H g Q (vf dx dy) → r x y H Q
/-- the operands as they are now, then the operation -/
def M.at2 (vf : D → D → Option RV) (p : RV × RV) : M RV := fun g => match p.1.at g, p.2.at g with
  | some x, some y => (match vf x y with | some rv => .ok rv g | none => .stuck)
  | _, _ => .stuck
def M.op2 (vf : D → D → Option RV) (a b : M RV) : M RV := M.bind (M.two a b) (M.at2 vf)
theorem post_two {W : WX} {B : List (Nat × V)} {A : AP} {σ : L2.St} {H : Hp} {g : G} {o : Ow} {Q : VK} {f : Value → Value → Sem Value} {vf : D → D → Option RV} {r2 : R2}
    (h : ∀ B A σ H g o Q x y dx dy fx fy, R C B A H σ g o → Rep C (W2 A o) H dx x fx → Rep C (W2 A o) H dy y fy → res C B A σ o H g Q (vf dx dy) → r2 x y H Q)
    {a b : M RV} (r : R C B A H σ g o) (po : PostE C B A W σ o H Q (M.op2 vf a b g)) : PostT C B A W σ o H (fun x y H2 => r2 x y H2 Q) (M.two a b g) := by
  unfold M.op2 M.bind at po
  cases e1 : M.two a b g with
  | ok p g1 =>
    obtain ⟨x, y⟩ := p
    rw [e1] at po
    intro u v H1 o1 r1 x1 rx ry
    unfold M.at2 at po
    dsimp only at po
    cases ex : x.at g1 with
    | none => rw [ex] at po; exact po.elim
    | some dx =>
      cases ey : y.at g1 with
      | none => rw [ex, ey] at po; exact po.elim
      | some dy =>
        rw [ex, ey] at po
        obtain ⟨fx, px, _⟩ := rx.rep r1 ex
        obtain ⟨fy, py, _⟩ := ry.rep r1 ey
        refine h B A σ H1 g1 o1 Q u v dx dy fx fy r1 px py ?_
        dsimp only at po
        cases ez : vf dx dy with
        | none => rw [ez] at po; exact po.elim
        | some rv =>
          rw [ez] at po
          intro w H2 fr r2 x2 rr
          exact po w H2 o1 fr r2 (x1.trans x2 r.lo) rr
  | exc x g1 => rw [e1] at po; exact po
  | stuck => rw [e1] at po; exact po
theorem v_bin {a b : Expr} {op : Operator} {ma mb : M RV} {vf : D → D → Option RV} {pos : Pos} (ho : V2 C X (binaryOp op) vf) (ha : VO C X a ma) (hb : VO C X b mb) : VE C X (.BinOp a op b pos) (M.op2 vf ma mb) := fun W tk => by
  obtain ⟨r2, o2, h⟩ := ho
  obtain ⟨ta, tb, pa, pb, q⟩ := v_two ha hb W tk
  exact ⟨tOp r2 ta tb, pe_op o2 pa pb, fun B A σ H g o Q r po => q B A σ H g o _ r (post_two (f := binaryOp op) h r po)⟩
def noSet : Expr → Bool
  | .Set .. => false
  | _ => true
theorem nomark2 {op : CmpOp} {b : Expr} (h : noSet b = true) : behindInMarks op b = false := by
  cases b <;> first | rfl | cases h
theorem v_cmp {a b : Expr} {op : CmpOp} {ma mb : M RV} {vf : D → D → Option RV} {pos : Pos} (ho : V2 C X (compareOp op) vf) (ha : VO C X a ma) (hb : VO C X b mb) (hn : noSet b = true) : VE C X (.Compare a [op] [b] pos) (M.op2 vf ma mb) := fun W tk => by
  obtain ⟨r2, o2, h⟩ := ho
  obtain ⟨ta, tb, pa, pb, q⟩ := v_two ha hb W tk
  exact ⟨tOp r2 ta tb, pe_cmpR o2 pa pb (nomark2 hn), fun B A σ H g o Q r po => q B A σ H g o _ r (post_two (f := compareOp op) h r po)⟩
/-- a subscript -/
def noSlice : Expr → Bool
  | .Slice .. => false
  | .Tuple .. => true
  | _ => true
theorem v_sub {a b : Expr} {ma mb : M RV} {vf : D → D → Option RV} {pos : Pos} (ho : ∃ r : R2, IxR X r ∧ ∀ B A σ H g o Q x y dx dy fx fy, R C B A H σ g o → Rep C (W2 A o) H dx x fx → Rep C (W2 A o) H dy y fy → res C B A σ o H g Q (vf dx dy) → r x y H Q)
    (ha : VO C X a ma) (hb : VO C X b mb) (hs : PlainIx b) : VE C X (.Subscript a b pos) (M.op2 vf ma mb) := fun W tk => by
  obtain ⟨r2, o2, h⟩ := ho
  obtain ⟨ta, tb, pa, pb, q⟩ := v_two ha hb W tk
  exact ⟨tOp r2 ta tb, pe_ix o2 pa pb hs, fun B A σ H g o Q r po => q B A σ H g o _ r (post_two (f := fun _ _ => unsupported "") h r po)⟩

/-! ### names, constants -/
/-- what a slot holds: a shared value by itself, an own one by its place -/
def M.slot (i : Nat) : M RV := fun g => match g[i]? with
  | some (some d) => if d.own = true then .ok (.pl i) g else .ok (.sh d) g
  | _ => .stuck
theorem v_slot {x : Str} {i : Nat} {pos : Pos} (hN : X.N[i]? = some x) (hv : Vis X.env.scope x) (hd : (x == ("__debug__" : Str)) = false) (hcd : (x == ("__classdict__" : Str)) = false) : VE C X (.Name x pos) (M.slot i) := fun W tk => by
  refine ⟨tVar i, pe_var hN hv hd hcd, fun B A σ H g o Q r po => ?_⟩
  unfold M.slot at po
  cases e : g[i]? with
  | none => rw [e] at po; exact po.elim
  | some y =>
    cases y with
    | none => rw [e] at po; exact po.elim
    | some d =>
      rw [e] at po
      obtain ⟨v, ev, q⟩ := r.sl i d e
      refine ⟨v, ev, ?_⟩
      dsimp only at po
      cases w : d.own with
      | true =>
        rw [w, if_pos rfl] at po
        exact po v H o [] (by rw [por_nil]; exact r) (Ext.refl.mono fun a z => z.elim id fun z => nomatch z) ⟨rfl, ⟨d, e⟩, ev⟩
      | false =>
        rw [w, if_neg Bool.false_ne_true] at po
        have q0 : Rep C (W2 A o) H d v [] := by
          have := q.sh w
          rw [this] at q
          exact q
        exact po v H o [] (by rw [por_nil]; exact r) (Ext.refl.mono fun a z => z.elim id fun z => nomatch z) ⟨rfl, q0⟩
/-- a value that needs nothing -/
def isScal : D → V → Prop := fun d v => ∀ C W H, Rep C W H d v []
theorem ok_scal {W : WX} {B : List (Nat × V)} {A : AP} {σ : L2.St} {H : Hp} {g : G} {o : Ow} {Q : VK} {d : D} {v : V} (r : R C B A H σ g o) (po : PostE C B A W σ o H Q (.ok (.sh d) g)) (h : Rep C (W2 A o) H d v []) : Q v H :=
  po v H o [] (by rw [por_nil]; exact r) (Ext.refl.mono fun a z => z.elim id fun z => nomatch z) ⟨rfl, h⟩
theorem v_tC {e : Expr} {d : D} {v : V} (h : PE X e (tC v)) (hd : ∀ W H, Rep C W H d v []) : VE C X e (M.pure (.sh d)) := fun W tk =>
  ⟨tC v, h, fun B A σ H g o Q r po => ok_scal r po (hd _ _)⟩
theorem v_int {i : Int} {j : Nat} {pos : Pos} : VE C X (.Constant (.int i) j pos) (M.pure (.sh (.int i))) := v_tC pe_int fun _ _ => ⟨rfl, rfl⟩
theorem v_bl {i : Bool} {j : Nat} {pos : Pos} : VE C X (.Constant (.bool i) j pos) (M.pure (.sh (.bl i))) := v_tC pe_bl fun _ _ => ⟨rfl, rfl⟩
theorem v_non {j : Nat} {pos : Pos} : VE C X (.Constant .none j pos) (M.pure (.sh .non)) := v_tC pe_non fun _ _ => ⟨rfl, rfl⟩
theorem v_str {x : Str} {j : Nat} {pos : Pos} : VE C X (.Constant (.str x) j pos) (M.pure (.sh (.str x))) := v_tC pe_str fun _ _ => ⟨rfl, rfl⟩
theorem v_globI {x : Str} {i : Int} {u : Tok} {pos : Pos} (hg : Gl X x) (hm : X.mg x = some (.int i u)) (hd : (x == ("__debug__" : Str)) = false) : VE C X (.Name x pos) (M.pure (.sh (.int i))) := v_tC (pe_glob (v := .int i) hg hm ⟨_, rfl⟩ hd) fun _ _ => ⟨rfl, rfl⟩
theorem v_globS {x z : Str} {u : Tok} {pos : Pos} (hg : Gl X x) (hm : X.mg x = some (.str z u)) (hd : (x == ("__debug__" : Str)) = false) : VE C X (.Name x pos) (M.pure (.sh (.str z))) := v_tC (pe_glob (v := .str z) hg hm ⟨_, rfl⟩ hd) fun _ _ => ⟨rfl, rfl⟩

/-! ### storing: what stands in a slot is shared from here on -/
def Ow.set (o : Ow) (i : Nat) (l : List Addr) : Ow := fun j => if j = i then l else o j
theorem Ow.set_at {o : Ow} {i : Nat} {l : List Addr} : o.set i l i = l := if_pos rfl
theorem Ow.set_ne {o : Ow} {i j : Nat} {l : List Addr} (h : j ≠ i) : o.set i l j = o j := if_neg h
theorem inO_set {o : Ow} {i : Nat} {l : List Addr} {a : Addr} (h : inO (o.set i l) a) : inO o a ∨ a ∈ l := by
  obtain ⟨j, h⟩ := h
  by_cases e : j = i
  · subst e; rw [Ow.set_at] at h; exact .inr h
  · rw [Ow.set_ne e] at h; exact .inl ⟨j, h⟩
section
variable {B : List (Nat × V)} {A : AP} {H : Hp} {σ : L2.St} {g : G} {o : Ow}
theorem get_lt {α : Type} {l : List α} {i : Nat} {x : α} (e : l[i]? = some x) : i < l.length := (List.getElem?_eq_some_iff.mp e).1
theorem R.freeze (r : R C B A H σ g o) {i : Nat} {d : D} (e : g[i]? = some (some d)) : R C B A H σ (g.set i (some d.fz)) (o.set i []) ∧
    Ext (inO o) (inO (o.set i [])) H H ∧ ∀ v, σ[i]? = some (some v) → Rep C (W2 A (o.set i [])) H d.fz v [] := by
  have sub : ∀ a, inO (o.set i []) a → inO o a := fun a z => (inO_set z).elim id fun z => nomatch z
  have hf : ∀ v, Rep C (W2 A o) H d v (o i) → Rep C (W2 A (o.set i [])) H d.fz v [] := fun v q => q.freeze (fun a z w => by
      rcases w with w | ⟨j, w⟩
      · exact r.dA i a z w
      · by_cases h : j = i
        · subst h; rw [Ow.set_at] at w; cases w
        · rw [Ow.set_ne h] at w; exact h (r.dj j i a w z)) fun a _ n z => n (z.imp_right (sub a))
  refine ⟨⟨by rw [List.length_set]; exact r.len, fun j d' e' => ?_, fun j => ?_, fun j k a z1 z2 => ?_, fun j a z => ?_, fun j a z => ?_, r.lA, r.bd, fun p hp => (r.xh p hp).to (fun _ _ e _ => e) fun a _ n z => n (z.imp_right (sub a))⟩, Ext.refl.mono sub, fun v ev => ?_⟩
  · by_cases h : j = i
    · subst h
      rw [List.getElem?_set_self (get_lt e)] at e'
      cases e'
      obtain ⟨v, ev, q⟩ := r.sl j d e
      exact ⟨v, ev, by rw [Ow.set_at]; exact hf v q⟩
    · rw [List.getElem?_set_ne (fun z => h z.symm)] at e'
      obtain ⟨v, ev, q⟩ := r.sl j d' e'
      refine ⟨v, ev, ?_⟩
      rw [Ow.set_ne h]
      exact q.to (fun _ _ y _ => y) fun a _ n z => n (z.imp_right (sub a))
  · by_cases h : j = i
    · subst h; rw [Ow.set_at]; exact List.nodup_nil
    · rw [Ow.set_ne h]; exact r.nd j
  · by_cases h : j = i
    · subst h; rw [Ow.set_at] at z1; cases z1
    · by_cases h' : k = i
      · subst h'; rw [Ow.set_at] at z2; cases z2
      · rw [Ow.set_ne h] at z1; rw [Ow.set_ne h'] at z2; exact r.dj j k a z1 z2
  · by_cases h : j = i
    · subst h; rw [Ow.set_at] at z; cases z
    · rw [Ow.set_ne h] at z; exact r.dA j a z
  · by_cases h : j = i
    · subst h; rw [Ow.set_at] at z; cases z
    · rw [Ow.set_ne h] at z; exact r.lv j a z
  · obtain ⟨v', ev', q⟩ := r.sl i d e
    rw [ev] at ev'; cases ev'
    exact hf v q
end
/-- a stored operand that stands in a slot is shared from here on -/
def M.store (rv : RV) : M D := fun g => match rv with
  | .pl i => (match g[i]? with | some (some d) => .ok d.fz (g.set i (some d.fz)) | _ => .stuck)
  | .sh d => .ok d g
  | .ow d => .ok d.fz g
def M.stores : List RV → M (List D)
  | [] => M.pure []
  | rv :: r => M.bind (M.store rv) fun d => M.bind (M.stores r) fun ds => M.pure (d :: ds)
section
variable {B : List (Nat × V)} {A : AP} {H : Hp} {σ : L2.St} {g g' : G} {o : Ow}
theorem store_ok (r : R C B A H σ g o) {rv : RV} {v : V} (h : RVR C A o H σ g rv v []) {d : D} (e : M.store rv g = .ok d g') :
    ∃ o', R C B A H σ g' o' ∧ Ext (inO o) (inO o') H H ∧ Rep C (W2 A o') H d v [] := by
  cases rv with
  | sh x => cases e; exact ⟨o, r, .refl, h.2⟩
  | ow x =>
    cases e
    obtain ⟨_, _, h⟩ := h
    rw [por_nil] at h
    exact ⟨o, r, .refl, h.freeze (fun _ z => nomatch z) fun _ _ n => n⟩
  | pl i =>
    obtain ⟨_, ⟨x, ex⟩, ev⟩ := h
    unfold M.store at e
    dsimp only at e
    rw [ex] at e
    cases e
    obtain ⟨r', x', q⟩ := r.freeze ex
    exact ⟨_, r', x', q v ev⟩
theorem store_noexc {rv : RV} {x : Ex} : M.store rv g ≠ .exc x g' := by
  cases rv with
  | sh _ => exact fun z => nomatch z
  | ow _ => exact fun z => nomatch z
  | pl i =>
    unfold M.store
    dsimp only
    split <;> exact fun z => nomatch z
theorem stores_noexc : ∀ {rs : List RV} {g g' : G} {x : Ex}, M.stores rs g ≠ .exc x g'
  | [], _, _, _ => fun z => nomatch z
  | rv :: r, g, g', x => fun z => by
    unfold M.stores M.bind at z
    cases e : M.store rv g with
    | ok d g1 =>
      rw [e] at z
      dsimp only at z
      cases e2 : M.stores r g1 with
      | ok ds g2 => rw [e2] at z; cases z
      | exc y g2 => exact stores_noexc e2
      | stuck => rw [e2] at z; cases z
    | exc y g1 => exact store_noexc e
    | stuck => rw [e] at z; cases z
/-- a shared value past a step in which no heap changes -/
theorem Rep.less {W W' : AP} {d : D} {v : V} {f : List Addr} (h : Rep C W H d v f) (k : ∀ a, W' a → W a) : Rep C W' H d v f := h.to (fun _ _ e _ => e) fun a _ n z => n (k a z)
theorem stores_ok : ∀ {rs : List RV} {vs : List V} {g g' : G} {o : Ow} {ds : List D}, R C B A H σ g o → RVRs C A o H σ g rs vs → M.stores rs g = .ok ds g' →
    ∃ o', R C B A H σ g' o' ∧ Ext (inO o) (inO o') H H ∧ Reps C (W2 A o') H ds vs []
  | [], vs, g, g', o, ds, r, h, e => by cases e; exact ⟨o, r, .refl, h, rfl⟩
  | rv :: rs, vs, g, g', o, ds, r, h, e => by
    obtain ⟨v, us, rfl, h1, h2⟩ := h
    unfold M.stores M.bind at e
    cases e1 : M.store rv g with
    | exc x g1 => rw [e1] at e; cases e
    | stuck => rw [e1] at e; cases e
    | ok d g1 =>
      rw [e1] at e
      dsimp only at e
      cases e2 : M.stores rs g1 with
      | exc x g2 => rw [e2] at e; cases e
      | stuck => rw [e2] at e; cases e
      | ok es g2 =>
        rw [e2] at e
        cases e
        obtain ⟨o1, r1, x1, p1⟩ := store_ok r h1 e1
        have h2' : RVRs C A o1 H σ g1 rs us := by
          have nx : ∀ (rs : List RV) (us : List V), RVRs C A o H σ g rs us → RVRs C A o1 H σ g1 rs us := by
            intro rs
            induction rs with
            | nil => intro us h; exact h
            | cons rv' rs ih =>
              intro us h
              obtain ⟨w, r', rfl, q1, q2⟩ := h
              refine ⟨w, r', rfl, ?_, ih r' q2⟩
              cases rv' with
              | sh y => exact ⟨rfl, Rep.stay r q1.2 x1 (fun _ _ => trivial) fun _ z => z⟩
              | ow y =>
                obtain ⟨a1, a2, a3⟩ := q1
                rw [por_nil] at a3
                refine ⟨a1, fun a z => (nomatch z), ?_⟩
                rw [por_nil]
                exact Rep.stay r a3 x1 (fun _ _ => trivial) fun _ z => z
              | pl j =>
                obtain ⟨_, ⟨y, ey⟩, ew⟩ := q1
                refine ⟨rfl, ?_, ew⟩
                cases rv with
                | sh x => cases e1; exact ⟨y, ey⟩
                | ow x => cases e1; exact ⟨y, ey⟩
                | pl i =>
                  unfold M.store at e1
                  dsimp only at e1
                  obtain ⟨_, ⟨x, ex⟩, _⟩ := h1
                  rw [ex] at e1
                  cases e1
                  by_cases hj : i = j
                  · subst hj; exact ⟨_, List.getElem?_set_self (get_lt ex)⟩
                  · exact ⟨y, by rw [List.getElem?_set_ne hj]; exact ey⟩
          exact nx rs us h2
        obtain ⟨o2, r2, x2, p2⟩ := stores_ok r1 h2' e2
        exact ⟨o2, r2, x1.trans x2 r.lo, .sh_cons (Rep.stay r1 p1 x2 (fun _ _ => trivial) fun _ z => z) p2⟩
end
/-! ### displays -/
/-- a new list (not too long) -/
def mkLst (ds : List D) : M RV := fun g => if ds.length ≤ sizeLine then .ok (.ow (.obj true .lst ds)) g else .stuck
def mkTup (ds : List D) : M RV := fun g => if ds.length ≤ sizeLine then .ok (.sh (.obj false .tup ds)) g else .stuck
def M.list (m : M (List RV)) : M RV := M.bind m fun rs => M.bind (M.stores rs) mkLst
def M.tuple (m : M (List RV)) : M RV := M.bind m fun rs => M.bind (M.stores rs) mkTup
/-- behind an operand list that is stored -/
theorem post_stores {W : WX} {B : List (Nat × V)} {A : AP} {σ : L2.St} {H : Hp} {g : G} {o : Ow} {Q : VK} {m : M (List RV)} {k : List D → M RV} {K : List V → Hp → Prop}
    (r : R C B A H σ g o) (po : PostE C B A W σ o H Q (M.bind m (fun rs => M.bind (M.stores rs) k) g))
    (h : ∀ vs H1 g1 o1 ds, R C B A H1 σ g1 o1 → Reps C (W2 A o1) H1 ds vs [] → PostE C B A W σ o1 H1 Q (k ds g1) → K vs H1) : PostA C B A W σ o H K (m g) := by
  unfold M.bind at po
  cases e1 : m g with
  | exc x g1 => rw [e1] at po; exact po
  | stuck => rw [e1] at po; exact po
  | ok rs g1 =>
    rw [e1] at po
    intro vs H1 o1 r1 x1 rr
    dsimp only at po
    cases e2 : M.stores rs g1 with
    | exc x g2 => exact absurd e2 stores_noexc
    | stuck => rw [e2] at po; exact po.elim
    | ok ds g2 =>
      rw [e2] at po
      obtain ⟨o2, r2, x2, p⟩ := stores_ok r1 rr e2
      refine h vs H1 g2 o2 ds r2 p ?_
      dsimp only at po
      cases e3 : k ds g2 with
      | ok rv g3 =>
        rw [e3] at po
        intro v H3 o3 fr r3 x3 rr3
        exact po v H3 o3 fr r3 ((x1.trans x2 r.lo).trans x3 r.lo) rr3
      | exc x g3 =>
        rw [e3] at po
        intro cls d H3 o3 r3 x3 ex
        exact po cls d H3 o3 r3 ((x1.trans x2 r.lo).trans x3 r.lo) ex
      | stuck => rw [e3] at po; exact po
theorem v_list {es : List Expr} {m : M (List RV)} {pos : Pos} (h : VA C X es m) : VE C X (.List es pos) (M.list m) := fun W tk => by
  obtain ⟨t, p, q⟩ := h W tk
  refine ⟨tLst t, pe_lst p, fun B A σ H g o Q r po => q B A σ H g o _ r (post_stores r po fun vs H1 g1 o1 ds r1 rp po1 => ?_)⟩
  unfold mkLst at po1
  by_cases z : ds.length ≤ sizeLine
  · rw [if_pos z] at po1
    refine ⟨by rw [rp.length]; exact z, fun p hp => ?_⟩
    exact po1 (.ref p) _ o1 [p] (r1.new hp) (Ext.alloc hp) (RVR.newObj r1 hp rfl (show Std C _ p .lst vs from upd_same) rp)
  · rw [if_neg z] at po1; exact po1.elim
theorem v_tuple {es : List Expr} {m : M (List RV)} {x1} {pos : Pos} (h : VA C X es m) : VE C X (.Tuple es x1 pos) (M.tuple m) := fun W tk => by
  obtain ⟨t, p, q⟩ := h W tk
  refine ⟨tTup t, pe_tup p, fun B A σ H g o Q r po => q B A σ H g o _ r (post_stores r po fun vs H1 g1 o1 ds r1 rp po1 => ?_)⟩
  unfold mkTup at po1
  by_cases z : ds.length ≤ sizeLine
  · rw [if_pos z] at po1
    refine ⟨by rw [rp.length]; exact z, fun p hp => ?_⟩
    exact po1 (.ref p) _ o1 [] (by rw [por_nil]; exact r1.new0 hp) ((Ext.alloc0 hp).mono fun a z => z.elim id fun z => nomatch z) (RVR.newTup r1 hp rp)
  · rw [if_neg z] at po1; exact po1.elim
end
end VL

set_option Elab.async false
set_option linter.all false
set_option maxRecDepth 100000
set_option maxHeartbeats 1000000
/-! Operators by values. -/
namespace VL
open PySem PySem.Spec L2
open PyProof.Rows (tail_any)

section
variable {C : CMap} {W : AP} {H : Hp}
/-- parts that may be handed on: those of a shared object, or shared parts of an own one -/
def pt (o : Bool) (xs : List D) : Bool := !o || xs.all fun d => !d.own
theorem Reps.allSh : ∀ {xs : List D} {vs : List V} {f : List Addr}, Reps C W H xs vs f → (xs.all fun d => !d.own) = true → f = []
  | [], _, _, h, _ => h.2
  | d :: ds, vs, f, h, e => by
    obtain ⟨v, r, f1, f2, rfl, h1, h2, rfl⟩ := h
    rw [List.all_cons, Bool.and_eq_true] at e
    rw [h1.sh (by simpa using e.1), Reps.allSh h2 e.2]
    rfl
theorem Rep.obj {o : Bool} {s : Sh} {xs : List D} {v : V} {f : List Addr} (h : Rep C W H (.obj o s xs) v f) : ∃ a vs f', v = .ref a ∧ Std C H a s vs ∧ Reps C W H xs vs f' ∧ (∀ b ∈ f', b ∈ f) ∧ (o = true → s.mutb = true ∧ f = a :: f') ∧ (o = false → f' = [] ∧ Av C W a s vs) := by
  obtain ⟨a, vs, fps, rfl, hr, h⟩ := h
  cases o with
  | false =>
    obtain ⟨hs, hw, rfl, rfl⟩ := h
    exact ⟨a, vs, [], rfl, hs, hr, fun _ z => z, (nomatch ·), fun _ => ⟨rfl, hw⟩⟩
  | true =>
    obtain ⟨ht, hs, rfl⟩ := h
    exact ⟨a, vs, fps, rfl, hs, hr, fun _ z => List.mem_cons_of_mem _ z, fun _ => ⟨ht, rfl⟩, (nomatch ·)⟩
theorem Rep.parts {o : Bool} {s : Sh} {xs : List D} {v : V} {f : List Addr} (h : Rep C W H (.obj o s xs) v f) (p : pt o xs = true) : ∃ a vs, v = .ref a ∧ Std C H a s vs ∧ Reps C W H xs vs [] := by
  obtain ⟨a, vs, f', rfl, hs, hr, _, _, e⟩ := h.obj
  cases o with
  | false =>
    obtain ⟨rfl, _⟩ := e rfl
    exact ⟨a, vs, rfl, hs, hr⟩
  | true =>
    have q := hr.allSh p
    subst q
    exact ⟨a, vs, rfl, hs, hr⟩
theorem Std.sqL {K : PySem.W.Frag} [ck : CK C K] {a : Addr} {vs : List V} {s : Sh} (h : Std C H a s vs) (e : s = .lst ∨ s = .frz) : SqL K H a vs := by
  rcases e with rfl | rfl
  · exact .inl (.inl h)
  · exact h.elim (fun h => .inl (.inr h)) fun h => .inr (ck.kl a vs h)
theorem Std.sqT {K : PySem.W.Frag} {a : Addr} {vs : List V} (h : Std C H a .tup vs) : SqT K H a vs := .inl (.inl h)
theorem Std.sqK {K : PySem.W.Frag} [ck : CK C K] {a : Addr} {vs : List V} (h : Std C H a .kt vs) : SqT K H a vs := .inr (ck.kt a vs h)
end

section
variable {C : CMap} {X : Cx} {B : List (Nat × V)} {A : AP} {σ : L2.St} {H : Hp} {g : G} {o : Ow} {Q : VK}
theorem res_sh {d : D} {v : V} (r : R C B A H σ g o) (po : res C B A σ o H g Q (some (.sh d))) (h : Rep C (W2 A o) H d v []) : Q v H :=
  po v H [] (by rw [por_nil]; exact r) (Ext.refl.mono fun a z => z.elim id fun z => nomatch z) ⟨rfl, h⟩
theorem res_tup {ds : List D} {vs : List V} {p : Addr} (r : R C B A H σ g o) (po : res C B A σ o H g Q (some (.sh (.obj false .tup ds)))) (hp : H p = none) (h : Reps C (W2 A o) H ds vs []) : Q (.ref p) (upd H p (.tup vs)) :=
  po (.ref p) _ [] (by rw [por_nil]; exact r.new0 hp) ((Ext.alloc0 hp).mono fun a z => z.elim id fun z => nomatch z) (RVR.newTup r hp h)
theorem res_new {ds : List D} {vs : List V} {p : Addr} {s : Sh} {x : HO} (r : R C B A H σ g o) (po : res C B A σ o H g Q (some (.ow (.obj true s ds)))) (hp : H p = none) (hs : s.mutb = true) (st : Std C (upd H p x) p s vs) (h : Reps C (W2 A o) H ds vs []) : Q (.ref p) (upd H p x) :=
  po (.ref p) _ [p] (r.new hp) (Ext.alloc hp) (RVR.newObj r hp hs st h)
end

/-! ### arithmetic -/
def okMul (i j : Int) : Bool := decide (-(2 ^ 64) < i ∧ i < 2 ^ 64) || decide (-(2 ^ 64) < j ∧ j < 2 ^ 64)
def vAdd : D → D → Option RV
  | .int i, .int j => some (.sh (.int (i + j)))
  | .str a, .str b => if a.length + b.length ≤ sizeLine then some (.sh (.str (a ++ b))) else none
  | .obj o .lst xs, .obj p .lst ys => if pt o xs = true ∧ pt p ys = true ∧ xs.length + ys.length ≤ sizeLine then some (.ow (.obj true .lst (xs ++ ys))) else none
  | .obj _ .tup xs, .obj _ .tup ys => if xs.length + ys.length ≤ sizeLine then some (.sh (.obj false .tup (xs ++ ys))) else none
  | _, _ => none
def vSub : D → D → Option RV
  | .int i, .int j => some (.sh (.int (i - j)))
  | _, _ => none
def vMul : D → D → Option RV
  | .int i, .int j => if okMul i j = true ∨ i.natAbs.log2 + j.natAbs.log2 < 1000000 then some (.sh (.int (i * j))) else none
  | .str x, .int k => if 1 ≤ k ∧ k ≤ 1048576 ∧ x.length * k.toNat ≤ sizeLine then some (.sh (.str (Txt.mul x k))) else none
  | .obj o .lst xs, .int k => if pt o xs = true ∧ -(2 ^ 63) ≤ k ∧ k < 2 ^ 63 ∧ xs.length * k.toNat ≤ sizeLine then some (.ow (.obj true .lst (List.replicate k.toNat xs).flatten)) else none
  | _, _ => none
def vFdiv : D → D → Option RV
  | .int i, .int j => if (0 < j ∧ j < 1073741824) ∨ (0 < j ∧ j.natAbs.log2 < 9000) then some (.sh (.int (i / j))) else none
  | _, _ => none
def vMod : D → D → Option RV
  | .int i, .int j => if 0 < j then some (.sh (.int (i % j))) else none
  | _, _ => none
def vPow : D → D → Option RV
  | .int i, .int j => if 0 ≤ j ∧ j ≤ 1000000 ∧ i.natAbs < 2 ^ 64 then some (.sh (.int (i ^ j.toNat))) else none
  | _, _ => none
def vShl : D → D → Option RV
  | .int i, .int j => if 0 ≤ j ∧ j ≤ 1000000 ∧ i.natAbs < 2 ^ 64 then some (.sh (.int (i * 2 ^ j.toNat))) else none
  | _, _ => none
def vShr : D → D → Option RV
  | .int i, .int j => if 0 ≤ j then some (.sh (.int (i / 2 ^ j.toNat))) else none
  | _, _ => none
def vAnd : D → D → Option RV
  | .int i, .int j => some (.sh (.int (Builtin.bitAnd i j)))
  | _, _ => none
def vOr : D → D → Option RV
  | .int i, .int j => some (.sh (.int (Builtin.bitOr i j)))
  | _, _ => none
def vXor : D → D → Option RV
  | .int i, .int j => some (.sh (.int (Builtin.bitXor i j)))
  | _, _ => none
section
variable {C : CMap} {X : Cx} [CK C X.K]
/-- what only two ints do -/
theorem v2_int {f : Value → Value → Sem Value} {vf : D → D → Option RV} {r2 : R2} (ho : OpR X f r2)
    (hi : ∀ i j rv, vf (.int i) (.int j) = some rv → ∃ v u, rv = .sh v ∧ (∀ C W H, Rep C W H v u []) ∧ ∀ H Q, Q u H → r2 (.int i) (.int j) H Q)
    (hn : ∀ x y, (∀ i j, ¬ (x = .int i ∧ y = .int j)) → vf x y = none) : V2 C X f vf := by
  refine ⟨r2, ho, fun B A σ H g o Q x y dx dy fx fy r hx hy po => ?_⟩
  by_cases h : ∃ i j, dx = .int i ∧ dy = .int j
  · obtain ⟨i, j, rfl, rfl⟩ := h
    obtain ⟨rfl, _⟩ := hx
    obtain ⟨rfl, _⟩ := hy
    cases e : vf (.int i) (.int j) with
    | none => rw [e] at po; exact po.elim
    | some rv =>
      rw [e] at po
      obtain ⟨v, u, rfl, hv, q⟩ := hi i j rv e
      exact q H Q (res_sh r po (hv _ _ _))
  · rw [hn dx dy fun i j z => h ⟨i, j, z⟩] at po
    exact po.elim
theorem v2_sub : V2 C X (binaryOp .Sub) vSub := v2_int op_sub (fun i j rv e => by cases e; exact ⟨_, _, rfl, fun _ _ _ => ⟨rfl, rfl⟩, fun H Q q => ⟨i, j, rfl, rfl, q⟩⟩) fun x y h => by
  cases x <;> cases y <;> first | rfl | exact absurd ⟨rfl, rfl⟩ (h _ _)
theorem v2_and : V2 C X (binaryOp .BitAnd) vAnd := v2_int op_and (fun i j rv e => by cases e; exact ⟨_, _, rfl, fun _ _ _ => ⟨rfl, rfl⟩, fun H Q q => ⟨i, j, rfl, rfl, q⟩⟩) fun x y h => by
  cases x <;> cases y <;> first | rfl | exact absurd ⟨rfl, rfl⟩ (h _ _)
theorem v2_or : V2 C X (binaryOp .BitOr) vOr := v2_int op_or (fun i j rv e => by cases e; exact ⟨_, _, rfl, fun _ _ _ => ⟨rfl, rfl⟩, fun H Q q => ⟨i, j, rfl, rfl, q⟩⟩) fun x y h => by
  cases x <;> cases y <;> first | rfl | exact absurd ⟨rfl, rfl⟩ (h _ _)
theorem v2_xor : V2 C X (binaryOp .BitXor) vXor := v2_int op_xor (fun i j rv e => by cases e; exact ⟨_, _, rfl, fun _ _ _ => ⟨rfl, rfl⟩, fun H Q q => ⟨i, j, rfl, rfl, q⟩⟩) fun x y h => by
  cases x <;> cases y <;> first | rfl | exact absurd ⟨rfl, rfl⟩ (h _ _)
theorem v2_fdiv : V2 C X (binaryOp .FloorDiv) vFdiv := v2_int (op_fdiv.or op_fdivW) (fun i j rv e => by
    simp only [vFdiv] at e
    split at e
    · rename_i c
      cases e
      refine ⟨_, _, rfl, fun _ _ _ => ⟨rfl, rfl⟩, fun H Q q => ?_⟩
      rcases c with c | c
      · exact .inl ⟨i, j, rfl, rfl, c, q⟩
      · exact .inr ⟨i, j, rfl, rfl, c, q⟩
    · cases e) fun x y h => by
  cases x <;> cases y <;> first | rfl | exact absurd ⟨rfl, rfl⟩ (h _ _)
theorem v2_mod : V2 C X (binaryOp .Mod) vMod := v2_int op_mod (fun i j rv e => by
    simp only [vMod] at e
    split at e
    · rename_i c
      cases e
      exact ⟨_, _, rfl, fun _ _ _ => ⟨rfl, rfl⟩, fun H Q q => ⟨i, j, rfl, rfl, c, q⟩⟩
    · cases e) fun x y h => by
  cases x <;> cases y <;> first | rfl | exact absurd ⟨rfl, rfl⟩ (h _ _)
theorem v2_pow : V2 C X (binaryOp .Pow) vPow := v2_int op_pow (fun i j rv e => by
    simp only [vPow] at e
    split at e
    · rename_i c
      cases e
      exact ⟨_, _, rfl, fun _ _ _ => ⟨rfl, rfl⟩, fun H Q q => ⟨i, j, rfl, rfl, c, q⟩⟩
    · cases e) fun x y h => by
  cases x <;> cases y <;> first | rfl | exact absurd ⟨rfl, rfl⟩ (h _ _)
theorem v2_shl : V2 C X (binaryOp .LShift) vShl := v2_int op_shl (fun i j rv e => by
    simp only [vShl] at e
    split at e
    · rename_i c
      cases e
      exact ⟨_, _, rfl, fun _ _ _ => ⟨rfl, rfl⟩, fun H Q q => ⟨i, j, rfl, rfl, c, q⟩⟩
    · cases e) fun x y h => by
  cases x <;> cases y <;> first | rfl | exact absurd ⟨rfl, rfl⟩ (h _ _)
theorem v2_shr : V2 C X (binaryOp .RShift) vShr := v2_int op_shr (fun i j rv e => by
    simp only [vShr] at e
    split at e
    · rename_i c
      cases e
      exact ⟨_, _, rfl, fun _ _ _ => ⟨rfl, rfl⟩, fun H Q q => ⟨i, j, rfl, rfl, c, q⟩⟩
    · cases e) fun x y h => by
  cases x <;> cases y <;> first | rfl | exact absurd ⟨rfl, rfl⟩ (h _ _)
theorem reps_flat {W : AP} {H : Hp} : ∀ (k : Nat) {xs : List D} {vs : List V}, Reps C W H xs vs [] → Reps C W H (List.replicate k xs).flatten (List.replicate k vs).flatten []
  | 0, _, _, _ => ⟨rfl, rfl⟩
  | k + 1, xs, vs, h => by
    rw [List.replicate_succ, List.replicate_succ, List.flatten_cons, List.flatten_cons]
    exact h.app (reps_flat k h)
theorem op_mulS {X : Cx} : OpR X (binaryOp .Mult) (fun x y H Q => ∃ (t : Str) (k : Int), x = .str t ∧ y = .int k ∧ 1 ≤ k ∧ k ≤ 1048576 ∧ t.length * k.toNat ≤ sizeLine ∧ Q (.str (Txt.mul t k)) H) := by
  intro pins s σ H x y v u Q I rx ry h
  obtain ⟨t, k, rfl, rfl, h1, h2, h3, q⟩ := h
  obtain ⟨t1, rfl⟩ := rx
  obtain ⟨t2, rfl⟩ := ry
  refine SB.mul ⟨?_, fun _ hc => ?_, fun _ _ => ?_⟩ fun t' k' => ⟨.str (Txt.mul t k), H, I.tok _, ⟨_, rfl⟩, q⟩
  · rw [decide_eq_false (by omega), decide_eq_false (by omega)]; rfl
  · have hk : k.toNat ≥ 1 := by omega
    have hl : t.length ≤ sizeLine := Nat.le_trans (Nat.le_mul_of_pos_right _ hk) h3
    have hl2 : t.length ≤ 16777216 := hl
    have : (16777216 : Int) ≤ (2 ^ 63 - 1) / k := by
      rw [Int.le_ediv_iff_mul_le (by omega)]
      omega
    omega
  · unfold Builtin.Str.tooLong
    exact decide_eq_false (by omega)
theorem v2_mul : V2 C X (binaryOp .Mult) vMul := by
  refine ⟨_, ((op_mul.or op_mulW).or op_rep).or op_mulS, fun B A σ H g o Q x y dx dy fx fy r hx hy po => ?_⟩
  cases dx with
  | int i =>
    cases dy with
    | int j =>
      obtain ⟨rfl, _⟩ := hx
      obtain ⟨rfl, _⟩ := hy
      simp only [vMul] at po
      split at po
      · rename_i c
        have q := res_sh (v := .int (i * j)) r po ⟨rfl, rfl⟩
        rcases c with c | c
        · refine .inl (.inl (.inl ⟨i, j, rfl, rfl, ?_, q⟩))
          rcases Bool.or_eq_true_iff.mp c with c | c
          · exact .inl (of_decide_eq_true c)
          · exact .inr (of_decide_eq_true c)
        · exact .inl (.inl (.inr ⟨i, j, rfl, rfl, c, q⟩))
      · exact po.elim
    | _ => exact po.elim
  | str x =>
    cases dy with
    | int k =>
      obtain ⟨rfl, _⟩ := hx
      obtain ⟨rfl, _⟩ := hy
      simp only [vMul] at po
      split at po
      · rename_i c
        exact .inr ⟨_, _, rfl, rfl, c.1, c.2.1, c.2.2, res_sh (v := .str (Txt.mul x k)) r po ⟨rfl, rfl⟩⟩
      · exact po.elim
    | _ => exact po.elim
  | obj ob s xs =>
    cases s with
    | lst =>
      cases dy with
      | int k =>
        obtain ⟨rfl, _⟩ := hy
        simp only [vMul] at po
        split at po
        · rename_i c
          obtain ⟨c0, c1, c2, c3⟩ := c
          obtain ⟨a, vs, rfl, hs, hr⟩ := hx.parts c0
          exact .inl (.inr ⟨a, k, vs, rfl, rfl, hs, c1, c2, by rw [hr.length]; exact c3, fun p hp => res_new r po hp rfl (show Std C _ p .lst _ from upd_same) (reps_flat _ hr)⟩)
        · exact po.elim
      | _ => exact po.elim
    | _ => exact po.elim
  | _ => exact po.elim
theorem v2_add : V2 C X (binaryOp .Add) vAdd := by
  refine ⟨_, (op_add.or op_add_str).or (op_cat.or op_catA), fun B A σ H g o Q x y dx dy fx fy r hx hy po => ?_⟩
  cases dx with
  | int i =>
    cases dy with
    | int j =>
      obtain ⟨rfl, _⟩ := hx
      obtain ⟨rfl, _⟩ := hy
      exact .inl (.inl ⟨i, j, rfl, rfl, res_sh (v := .int (i + j)) r po ⟨rfl, rfl⟩⟩)
    | _ => exact po.elim
  | str a =>
    cases dy with
    | str b =>
      obtain ⟨rfl, _⟩ := hx
      obtain ⟨rfl, _⟩ := hy
      simp only [vAdd] at po
      split at po
      · rename_i c
        exact .inl (.inr ⟨a, b, rfl, rfl, c, res_sh (v := .str (a ++ b)) r po ⟨rfl, rfl⟩⟩)
      · exact po.elim
    | _ => exact po.elim
  | obj ob s xs =>
    cases dy with
    | obj ob2 s2 ys =>
      cases s with
      | lst =>
        cases s2 with
        | lst =>
          simp only [vAdd] at po
          split at po
          · rename_i c
            obtain ⟨c0, c1, c2⟩ := c
            obtain ⟨a, vs, rfl, hs, hr⟩ := hx.parts c0
            obtain ⟨b, us, rfl, hs2, hr2⟩ := hy.parts c1
            exact .inr (.inl ⟨a, b, vs, us, rfl, rfl, hs, hs2, by rw [hr.length, hr2.length]; exact c2, fun p hp => res_new r po hp rfl (show Std C _ p .lst _ from upd_same) (hr.app hr2)⟩)
          · exact po.elim
        | _ => exact po.elim
      | tup =>
        cases s2 with
        | tup =>
          simp only [vAdd] at po
          split at po
          · rename_i c
            have t1 : ob = false := by
              cases ob with
              | false => rfl
              | true => obtain ⟨_, _, _, _, _, _, _, e, _⟩ := hx.obj; exact (nomatch (e rfl).1)
            have t2 : ob2 = false := by
              cases ob2 with
              | false => rfl
              | true => obtain ⟨_, _, _, _, _, _, _, e, _⟩ := hy.obj; exact (nomatch (e rfl).1)
            subst t1 t2
            obtain ⟨a, vs, f1, e1, hs, hr, _, _, z1⟩ := hx.obj
            obtain ⟨b, us, f2, e2, hs2, hr2, _, _, z2⟩ := hy.obj
            obtain ⟨rfl, w1⟩ := z1 rfl
            obtain ⟨rfl, w2⟩ := z2 rfl
            subst e1 e2
            refine .inr (.inr ⟨a, b, vs, us, rfl, rfl, Std.sqT hs, Std.sqT hs2, by rw [hr.length, hr2.length]; exact c, fun e => ?_, fun n e => ?_, fun n n2 p hp => ?_⟩)
            · subst e
              have : xs = [] := List.length_eq_zero_iff.mp (by rw [← hr.length]; rfl)
              subst this
              exact res_sh r po ⟨b, us, [], rfl, hr2, hs2, w2, rfl, rfl⟩
            · subst e
              have : ys = [] := List.length_eq_zero_iff.mp (by rw [← hr2.length]; rfl)
              subst this
              rw [List.append_nil] at po
              exact res_sh r po ⟨a, vs, [], rfl, hr, hs, w1, rfl, rfl⟩
            · exact res_tup r po hp (hr.app hr2)
          · exact po.elim
        | _ => exact po.elim
      | _ => cases s2 <;> exact po.elim
    | _ => cases s <;> exact po.elim
  | _ => cases dy <;> exact po.elim
end
end VL

set_option Elab.async false
set_option linter.all false
set_option maxRecDepth 100000
set_option maxHeartbeats 1000000
/-! Comparisons, subscripts, dict looks, by values. -/
namespace VL
open PySem PySem.Spec L2
open PyProof.Rows (tail_any)

/-- a scalar -/
def D.scal : D → Option V
  | .non => some .non | .bl b => some (.bl b) | .int i => some (.int i) | .str s => some (.str s)
  | _ => none
def scals : List D → Option (List V)
  | [] => some []
  | d :: r => match d.scal, scals r with
    | some v, some vs => some (v :: vs)
    | _, _ => none
mutual
def D.py : D → PyData
  | .non => .none | .bl b => .bool b | .int i => .int i | .str s => .str s
  | .obj _ .tup xs => .tuple (pys xs)
  | .obj _ .lst xs => .list (pys xs)
  | .obj _ .frz xs => .list (pys xs)
  | .obj _ .kt xs => .tuple (pys xs)
  | .obj _ _ _ => .dict []
  | .ty _ => .dict []
  | .cl _ => .dict []
def pys : List D → List PyData
  | [] => []
  | d :: r => d.py :: pys r
end
theorem pys_map : ∀ xs : List D, pys xs = xs.map D.py
  | [] => rfl
  | x :: xs => congrArg (x.py :: ·) (pys_map xs)
/-- data that == tells apart -/
def D.shp (d : D) : Bool := SeqAt.shaped d.py
section
variable {C : CMap} {W : AP} {H : Hp} {K : PySem.W.Frag} [CK C K]
theorem Rep.scal {d : D} {v u : V} {f : List Addr} (h : Rep C W H d v f) (e : d.scal = some u) : v = u ∧ flatV u = true := by
  cases d with
  | obj _ _ _ => cases e
  | ty _ => cases e
  | cl _ => cases e
  | _ => cases e; exact ⟨h.1, rfl⟩
theorem Reps.scals : ∀ {ds : List D} {vs us : List V} {f : List Addr}, Reps C W H ds vs f → VL.scals ds = some us → vs = us ∧ us.all flatV = true
  | [], _, _, _, h, e => by cases e; exact ⟨h.1, rfl⟩
  | d :: ds, vs, us, f, h, e => by
    obtain ⟨v, r, f1, f2, rfl, h1, h2, rfl⟩ := h
    unfold VL.scals at e
    cases e1 : d.scal with
    | none => rw [e1] at e; cases e
    | some u =>
      cases e2 : VL.scals ds with
      | none => rw [e1, e2] at e; cases e
      | some ws =>
        rw [e1, e2] at e
        cases e
        obtain ⟨rfl, q1⟩ := h1.scal e1
        obtain ⟨rfl, q2⟩ := Reps.scals h2 e2
        exact ⟨rfl, by rw [List.all_cons, q1, q2]; rfl⟩
mutual
theorem Rep.dp : ∀ {d : D} {v : V} {f : List Addr}, Rep C W H d v f → d.py.canLay0 = true → Dp K H v d.py
  | .non, _, _, h, _ => by rw [h.1]; exact .non
  | .bl b, _, _, h, _ => by rw [h.1]; exact .bl b
  | .int i, _, _, h, _ => by rw [h.1]; exact .int i
  | .str s, _, _, h, _ => by rw [h.1]; exact .str s
  | .obj o s xs, v, f, h, l => by
    obtain ⟨a, vs, f', rfl, hs, hr, _⟩ := h.obj
    cases s with
    | tup => simp only [D.py] at l ⊢; exact .tup (Std.sqT hs) (Reps.dp hr (by simpa [PyData.canLay0] using l))
    | lst => simp only [D.py] at l ⊢; exact .lst (Std.sqL hs (.inl rfl)) (Reps.dp hr (by simpa [PyData.canLay0] using l))
    | frz => simp only [D.py] at l ⊢; exact .lst (Std.sqL hs (.inr rfl)) (Reps.dp hr (by simpa [PyData.canLay0] using l))
    | kt => simp only [D.py] at l ⊢; exact .tup (Std.sqK hs) (Reps.dp hr (by simpa [PyData.canLay0] using l))
    | dk ks => simp [D.py, PyData.canLay0] at l
    | dt ks => simp [D.py, PyData.canLay0] at l
    | ins c fs => simp [D.py, PyData.canLay0] at l
theorem Reps.dp : ∀ {ds : List D} {vs : List V} {f : List Addr}, Reps C W H ds vs f → PyData.canLayAll0 (pys ds) = true → DpAll K H vs (pys ds)
  | [], _, _, h, _ => by rw [h.1]; exact .nil
  | d :: ds, vs, f, h, l => by
    obtain ⟨v, r, f1, f2, rfl, h1, h2, rfl⟩ := h
    have l2 : d.py.canLay0 = true ∧ PyData.canLayAll0 (pys ds) = true := by simpa [pys, PyData.canLayAll0] using l
    exact .cons (Rep.dp h1 l2.1) (Reps.dp h2 l2.2)
end
theorem Rep.dps {d : D} {v : V} {f : List Addr} (h : Rep C W H d v f) (l : d.shp = true) : Dp K H v d.py := h.dp (SeqAt.canLay_of_shaped l)
end

/-! ### == and != -/
def vEq : D → D → Option RV := fun x y => match x.scal, y.scal with
  | some u, some v => if L2.scal u v = true then some (.sh (.bl (decide (u = v)))) else if (x.shp && y.shp) = true then some (.sh (.bl (PyData.eqv x.py y.py))) else none
  | _, _ => if (x.shp && y.shp) = true then some (.sh (.bl (PyData.eqv x.py y.py))) else none
def vNe : D → D → Option RV := fun x y => match x.scal, y.scal with
  | some u, some v => if L2.scal u v = true then some (.sh (.bl (!decide (u = v)))) else if (x.shp && y.shp) = true then some (.sh (.bl (!PyData.eqv x.py y.py))) else none
  | _, _ => if (x.shp && y.shp) = true then some (.sh (.bl (!PyData.eqv x.py y.py))) else none
def vIs : D → D → Option RV
  | x, .non => some (.sh (.bl (match x with | .non => true | _ => false)))
  | _, _ => none
def vIsNot : D → D → Option RV
  | x, .non => some (.sh (.bl (!(match x with | .non => true | _ => false))))
  | _, _ => none
def strLt (a b : Str) : Bool := decide (a.cps.toList < b.cps.toList)
def vLt : D → D → Option RV
  | .int i, .int j => some (.sh (.bl (decide (i < j))))
  | .str a, .str b => some (.sh (.bl (strLt a b)))
  | _, _ => none
def vLe : D → D → Option RV
  | .int i, .int j => some (.sh (.bl (decide (i ≤ j))))
  | _, _ => none
def vGt : D → D → Option RV
  | .int i, .int j => some (.sh (.bl (decide (j < i))))
  | _, _ => none
def vGe : D → D → Option RV
  | .int i, .int j => some (.sh (.bl (decide (j ≤ i))))
  | _, _ => none
section
variable {C : CMap} {X : Cx} [CK C X.K]
theorem v2_eq (hu : X.A.units + 64 < cLine) : V2 C X (compareOp .Eq) vEq := by
  refine ⟨_, op_eq.or (op_eqD hu), fun B A σ H g o Q x y dx dy fx fy r hx hy po => ?_⟩
  have main : (if (dx.shp && dy.shp) = true then some (RV.sh (.bl (PyData.eqv dx.py dy.py))) else none) = vEq dx dy → rEqD X.K x y H Q := fun e => by
    rw [← e] at po
    by_cases c : (dx.shp && dy.shp) = true
    · rw [if_pos c] at po
      obtain ⟨c1, c2⟩ := Bool.and_eq_true_iff.mp c
      exact ⟨_, _, hx.dps c1, hy.dps c2, c1, c2, res_sh r po ⟨rfl, rfl⟩⟩
    · rw [if_neg c] at po; exact po.elim
  unfold vEq at po main
  cases e1 : dx.scal with
  | none => rw [e1] at main; exact .inr (main rfl)
  | some u =>
    cases e2 : dy.scal with
    | none => rw [e1, e2] at main; exact .inr (main rfl)
    | some v =>
      rw [e1, e2] at main po
      dsimp only at main po
      by_cases c : L2.scal u v = true
      · rw [if_pos c] at po
        obtain ⟨rfl, _⟩ := hx.scal e1
        obtain ⟨rfl, _⟩ := hy.scal e2
        exact .inl ⟨c, res_sh r po ⟨rfl, rfl⟩⟩
      · rw [if_neg c] at main; exact .inr (main rfl)
theorem v2_ne (hu : X.A.units + 64 < cLine) : V2 C X (compareOp .NotEq) vNe := by
  refine ⟨_, op_ne.or (op_neD hu), fun B A σ H g o Q x y dx dy fx fy r hx hy po => ?_⟩
  have main : (if (dx.shp && dy.shp) = true then some (RV.sh (.bl (!PyData.eqv dx.py dy.py))) else none) = vNe dx dy → rNeD X.K x y H Q := fun e => by
    rw [← e] at po
    by_cases c : (dx.shp && dy.shp) = true
    · rw [if_pos c] at po
      obtain ⟨c1, c2⟩ := Bool.and_eq_true_iff.mp c
      exact ⟨_, _, hx.dps c1, hy.dps c2, c1, c2, res_sh r po ⟨rfl, rfl⟩⟩
    · rw [if_neg c] at po; exact po.elim
  unfold vNe at po main
  cases e1 : dx.scal with
  | none => rw [e1] at main; exact .inr (main rfl)
  | some u =>
    cases e2 : dy.scal with
    | none => rw [e1, e2] at main; exact .inr (main rfl)
    | some v =>
      rw [e1, e2] at main po
      dsimp only at main po
      by_cases c : L2.scal u v = true
      · rw [if_pos c] at po
        obtain ⟨rfl, _⟩ := hx.scal e1
        obtain ⟨rfl, _⟩ := hy.scal e2
        exact .inl ⟨c, res_sh r po ⟨rfl, rfl⟩⟩
      · rw [if_neg c] at main; exact .inr (main rfl)
theorem v2_is : V2 C X (compareOp .Is) vIs := by
  refine ⟨_, op_isN, fun B A σ H g o Q x y dx dy fx fy r hx hy po => ?_⟩
  cases dy with
  | non =>
    obtain ⟨rfl, _⟩ := hy
    refine ⟨rfl, ?_⟩
    cases dx with
    | obj ob s xs =>
      obtain ⟨a, vs, _, rfl, _⟩ := hx.obj
      exact res_sh (v := .bl (decide (V.ref a = .non))) r po ⟨by simp, rfl⟩
    | cl c => obtain ⟨⟨k, _, rfl⟩, _⟩ := hx; exact res_sh (v := .bl (decide (_ = V.non))) r po ⟨by simp, rfl⟩
    | _ => obtain ⟨rfl, _⟩ := hx; exact res_sh (v := .bl (decide (_ = V.non))) r po ⟨by simp, rfl⟩
  | _ => cases dx <;> exact po.elim
theorem v2_isNot : V2 C X (compareOp .IsNot) vIsNot := by
  refine ⟨_, op_notN, fun B A σ H g o Q x y dx dy fx fy r hx hy po => ?_⟩
  cases dy with
  | non =>
    obtain ⟨rfl, _⟩ := hy
    refine ⟨rfl, ?_⟩
    cases dx with
    | obj ob s xs =>
      obtain ⟨a, vs, _, rfl, _⟩ := hx.obj
      exact res_sh (v := .bl (!decide (V.ref a = .non))) r po ⟨by simp, rfl⟩
    | cl c => obtain ⟨⟨k, _, rfl⟩, _⟩ := hx; exact res_sh (v := .bl (!decide (_ = V.non))) r po ⟨by simp, rfl⟩
    | _ => obtain ⟨rfl, _⟩ := hx; exact res_sh (v := .bl (!decide (_ = V.non))) r po ⟨by simp, rfl⟩
  | _ => cases dx <;> exact po.elim
theorem v2_lt : V2 C X (compareOp .Lt) vLt := by
  refine ⟨_, op_lt.or op_lt_str, fun B A σ H g o Q x y dx dy fx fy r hx hy po => ?_⟩
  cases dx with
  | int i =>
    cases dy with
    | int j =>
      obtain ⟨rfl, _⟩ := hx
      obtain ⟨rfl, _⟩ := hy
      exact .inl ⟨i, j, rfl, rfl, res_sh (v := .bl _) r po ⟨rfl, rfl⟩⟩
    | _ => exact po.elim
  | str i =>
    cases dy with
    | str j =>
      obtain ⟨rfl, _⟩ := hx
      obtain ⟨rfl, _⟩ := hy
      exact .inr ⟨i, j, rfl, rfl, res_sh (v := .bl _) r po ⟨rfl, rfl⟩⟩
    | _ => exact po.elim
  | _ => cases dy <;> exact po.elim
theorem v2_le : V2 C X (compareOp .LtE) vLe := v2_int op_le (fun i j rv e => by cases e; exact ⟨_, _, rfl, fun _ _ _ => ⟨rfl, rfl⟩, fun H Q q => ⟨i, j, rfl, rfl, q⟩⟩) fun x y h => by
  cases x <;> cases y <;> first | rfl | exact absurd ⟨rfl, rfl⟩ (h _ _)
theorem v2_gt : V2 C X (compareOp .Gt) vGt := v2_int op_gt (fun i j rv e => by cases e; exact ⟨_, _, rfl, fun _ _ _ => ⟨rfl, rfl⟩, fun H Q q => ⟨i, j, rfl, rfl, q⟩⟩) fun x y h => by
  cases x <;> cases y <;> first | rfl | exact absurd ⟨rfl, rfl⟩ (h _ _)
theorem v2_ge : V2 C X (compareOp .GtE) vGe := v2_int op_ge (fun i j rv e => by cases e; exact ⟨_, _, rfl, fun _ _ _ => ⟨rfl, rfl⟩, fun H Q q => ⟨i, j, rfl, rfl, q⟩⟩) fun x y h => by
  cases x <;> cases y <;> first | rfl | exact absurd ⟨rfl, rfl⟩ (h _ _)
end

/-! ### keys and looks -/
def D.key : D → Option Key
  | .int i => some (.inl i)
  | .str s => some (.inr s)
  | _ => none
def keysOf : List D → Option (List Key)
  | [] => some []
  | d :: r => match d.key, keysOf r with
    | some k, some ks => some (k :: ks)
    | _, _ => none
def D.tkey : D → Option (List Key)
  | .obj _ .tup xs => keysOf xs
  | _ => none
section
variable {κ : Type} [DecidableEq κ] {α : Type}
def dget (ks : List κ) (xs : List α) (k : κ) : Option α := ((ks.zip xs).find? fun p => decide (p.1 = k)).map (·.2)
def dput (ks : List κ) (xs : List α) (k : κ) (x : α) : List κ × List α :=
  if k ∈ ks then (ks, (ks.zip xs).map fun p => if p.1 = k then x else p.2) else (ks ++ [k], xs ++ [x])
end
/-- a dict's look: what stands at the key, if anything -/
def D.look (d k : D) : Option (Option D) := match d with
  | .obj _ (.dk ks) xs => k.key.map fun k => dget ks xs k
  | .obj _ (.dt ks) xs => k.tkey.map fun k => dget ks xs k
  | _ => none
section
variable {C : CMap} {W : AP} {H : Hp}
theorem Rep.key {d : D} {v : V} {f : List Addr} {k : Key} (h : Rep C W H d v f) (e : d.key = some k) : v = kV k := by
  cases d with
  | int i => cases e; exact h.1
  | str s => cases e; exact h.1
  | _ => cases e
theorem Reps.keys : ∀ {ds : List D} {vs : List V} {f : List Addr} {ks : List Key}, Reps C W H ds vs f → keysOf ds = some ks → vs = ks.map kV
  | [], _, _, _, h, e => by cases e; exact h.1
  | d :: ds, vs, f, ks, h, e => by
    obtain ⟨v, r, f1, f2, rfl, h1, h2, rfl⟩ := h
    unfold keysOf at e
    cases e1 : d.key with
    | none => rw [e1] at e; cases e
    | some u =>
      cases e2 : keysOf ds with
      | none => rw [e1, e2] at e; cases e
      | some ws =>
        rw [e1, e2] at e
        cases e
        rw [h1.key e1, Reps.keys h2 e2]
        rfl
theorem Rep.tkey {d : D} {v : V} {f : List Addr} {ks : List Key} (h : Rep C W H d v f) (e : d.tkey = some ks) : ∃ b, v = .ref b ∧ H b = some (.tup (ks.map kV)) := by
  cases d with
  | obj o s xs =>
    cases s with
    | tup =>
      obtain ⟨a, vs, f', rfl, hs, hr, _⟩ := h.obj
      refine ⟨a, rfl, ?_⟩
      rw [← hr.keys e]
      exact hs
    | _ => cases e
  | _ => cases e
theorem Reps.get {κ : Type} [DecidableEq κ] (k : κ) : ∀ {ks : List κ} {xs : List D} {vs : List V} {f : List Addr}, Reps C W H xs vs f →
    (dget ks xs k = none → valV (ks.zip vs) k = none) ∧ ∀ d, dget ks xs k = some d → ∃ v f', valV (ks.zip vs) k = some v ∧ Rep C W H d v f' ∧ ∀ a ∈ f', a ∈ f
  | [], _, _, _, _ => ⟨fun _ => by simp [valV], fun d e => by simp [dget] at e⟩
  | k' :: ks, [], _, _, h => by
    obtain ⟨rfl, rfl⟩ := h
    exact ⟨fun _ => by simp [valV], fun d e => by simp [dget] at e⟩
  | k' :: ks, x :: xs, vs, f, h => by
    obtain ⟨v, r, f1, f2, rfl, h1, h2, rfl⟩ := h
    have ih := Reps.get (k := k) (ks := ks) h2
    by_cases c : k' = k
    · have e1 : dget (k' :: ks) (x :: xs) k = some x := by simp [dget, List.zip_cons_cons, List.find?_cons, c]
      rw [e1]
      refine ⟨fun e => (nomatch e), fun d e => ?_⟩
      cases e
      exact ⟨v, f1, by rw [List.zip_cons_cons]; exact valV_pos c, h1, fun a z => List.mem_append_left _ z⟩
    · have e1 : dget (k' :: ks) (x :: xs) k = dget ks xs k := by simp [dget, List.zip_cons_cons, List.find?_cons, c]
      rw [e1, List.zip_cons_cons, valV_neg c]
      refine ⟨ih.1, fun d e => ?_⟩
      obtain ⟨v', f', q1, q2, q3⟩ := ih.2 d e
      exact ⟨v', f', q1, q2, fun a z => List.mem_append_right _ (q3 a z)⟩
/-- a look at the heap -/
theorem look_get {dx dk : D} {x k : V} {fx fk : List Addr} (hx : Rep C W H dx x fx) (hk : Rep C W H dk k fk) {r : Option D} (e : dx.look dk = some r) :
    ∃ a ov, x = .ref a ∧ DGet H a k ov ∧ (r = none → ov = none) ∧ ∀ d, r = some d → ∃ v f, ov = some v ∧ Rep C W H d v f ∧ ∀ b ∈ f, b ∈ fx := by
  cases dx with
  | obj ob s xs =>
    obtain ⟨a, vs, f', rfl, hs, hr, sub, _⟩ := hx.obj
    cases s with
    | dk ks =>
      cases e1 : dk.key with
      | none => simp [D.look, e1] at e
      | some q =>
        simp only [D.look, e1, Option.map_some] at e
        cases e
        obtain rfl := hk.key e1
        have z := hr.get (k := q) (ks := ks)
        refine ⟨a, _, rfl, DGet.k hs.2, z.1, fun d ed => ?_⟩
        obtain ⟨v, f, q1, q2, q3⟩ := z.2 d ed
        exact ⟨v, f, q1, q2, fun b m => sub b (q3 b m)⟩
    | dt ks =>
      cases e1 : dk.tkey with
      | none => simp [D.look, e1] at e
      | some q =>
        simp only [D.look, e1, Option.map_some] at e
        cases e
        obtain ⟨b, rfl, hb⟩ := hk.tkey e1
        have z := hr.get (k := q) (ks := ks)
        refine ⟨a, _, rfl, DGet.t hs.2 hb, z.1, fun d ed => ?_⟩
        obtain ⟨v, f, q1, q2, q3⟩ := z.2 d ed
        exact ⟨v, f, q1, q2, fun b m => sub b (q3 b m)⟩
    | _ => simp [D.look] at e
  | _ => simp [D.look] at e
end
section
variable {X : Cx}
theorem ix_dict (hu : X.A.units + 1 < cLine) : IxR X (fun x y H Q => ∃ a v, x = .ref a ∧ DGet H a y (some v) ∧ Q v H) := by
  intro value slice pins s σ H x y v u Q I rx ry h hs
  obtain ⟨a, z, rfl, g, q⟩ := h
  cases rx
  exact tail_any (dict_typeIs I g) PySem.F.slot_dict_getitem.lookup (d_getItem hu I g ry fun w' s3 I3 rw' => ⟨z, H, I3, rw', q⟩) hs
theorem op_in_dict (hu : X.A.units + 1 < cLine) : OpR X (compareOp .In) (fun x y H Q => ∃ a o, y = .ref a ∧ DGet H a x o ∧ Q (.bl o.isSome) H) := by
  intro pins s σ H x y v u Q I rx ry h
  obtain ⟨a, z, rfl, g, q⟩ := h
  cases ry
  exact d_in hu I g rx fun s3 I3 => ⟨.bl z.isSome, H, I3, rfl, q⟩
theorem op_notIn_dict (hu : X.A.units + 1 < cLine) : OpR X (compareOp .NotIn) (fun x y H Q => ∃ a o, y = .ref a ∧ DGet H a x o ∧ Q (.bl (!o.isSome)) H) := by
  intro pins s σ H x y v u Q I rx ry h
  obtain ⟨a, z, rfl, g, q⟩ := h
  cases ry
  exact d_notIn hu I g rx fun s3 I3 => ⟨.bl (!z.isSome), H, I3, rfl, q⟩
theorem op_inDT (hu : X.A.units + 65 < cLine) : OpR X (compareOp .In) (fun x y H Q => ∃ d ds, Dp X.K H x d ∧ Dp X.K H y (.tuple ds) ∧ SeqAt.shaped d = true ∧ SeqAt.shaped (.tuple ds) = true ∧ Q (.bl (ds.any fun z => PyData.eqv z d)) H) := by
  intro pins s σ H x y v u Q I rx ry h
  obtain ⟨d, ds, hd, he, sd, se, q⟩ := h
  obtain ⟨as, r1⟩ := Dp.reads I d x v hd rx
  obtain ⟨bs, r2⟩ := Dp.reads I (.tuple ds) y u he ry
  exact SeqAt.in_tuple_reads r2 r1 (SeqAt.canLay_of_shaped se) (SeqAt.canLay_of_shaped sd) (PyProof.Rows.room_in_shaped sd hu) ⟨.bl _, H, I, rfl, q⟩
theorem op_notInDT (hu : X.A.units + 65 < cLine) : OpR X (compareOp .NotIn) (fun x y H Q => ∃ d ds, Dp X.K H x d ∧ Dp X.K H y (.tuple ds) ∧ SeqAt.shaped d = true ∧ SeqAt.shaped (.tuple ds) = true ∧ Q (.bl (!ds.any fun z => PyData.eqv z d)) H) := by
  intro pins s σ H x y v u Q I rx ry h
  obtain ⟨d, ds, hd, he, sd, se, q⟩ := h
  obtain ⟨as, r1⟩ := Dp.reads I d x v hd rx
  obtain ⟨bs, r2⟩ := Dp.reads I (.tuple ds) y u he ry
  exact SeqAt.notIn_tuple_reads r2 r1 (SeqAt.canLay_of_shaped se) (SeqAt.canLay_of_shaped sd) (PyProof.Rows.room_in_shaped sd hu) ⟨.bl _, H, I, rfl, q⟩
end
/-! ### x[i] -/
def at0 (d : Option D) : Option RV := match d with
  | some d => if d.own = true then none else some (.sh d)
  | none => none
def vIx : D → D → Option RV := fun x y => match x with
  | .str s => (match y with
    | .int i => if s.length ≤ sizeLine then (L2.atI s.cps.toList i).map fun c => .sh (.str ⟨#[c]⟩) else none
    | _ => none)
  | .obj _ .lst xs => (match y with | .int i => at0 (L2.atI xs i) | _ => none)
  | .obj _ .frz xs => (match y with | .int i => at0 (L2.atI xs i) | _ => none)
  | .obj _ .tup xs => (match y with | .int i => at0 (L2.atI xs i) | _ => none)
  | .obj _ .kt xs => (match y with | .int i => at0 (L2.atI xs i) | _ => none)
  | .obj _ (.dk _) _ => at0 (x.look y).join
  | .obj _ (.dt _) _ => at0 (x.look y).join
  | _ => none
/-! ### in, not in -/
def hasIn : D → D → Option Bool := fun x y => match y with
  | .str b => (match x with | .str a => some (!(Builtin.Str.occurrences b a 0 b.length 1).isEmpty) | _ => none)
  | .obj _ .lst xs => (match x.scal, scals xs with
    | some u, some us => some (inV u us)
    | _, _ => if (x.shp && y.shp) = true then some ((pys xs).any fun z => PyData.eqv z x.py) else none)
  | .obj _ .tup xs => (match x.scal, scals xs with
    | some u, some us => some (inV u us)
    | _, _ => if (x.shp && y.shp) = true then some ((pys xs).any fun z => PyData.eqv z x.py) else none)
  | .obj _ (.dk _) _ => (y.look x).map (·.isSome)
  | .obj _ (.dt _) _ => (y.look x).map (·.isSome)
  | _ => none
def vIn (x y : D) : Option RV := (hasIn x y).map fun b => .sh (.bl b)
def vNotIn (x y : D) : Option RV := (hasIn x y).map fun b => .sh (.bl (!b))
section
variable {C : CMap} {X : Cx} [CK C X.K]
theorem atI_reps {W : AP} {H : Hp} {xs : List D} {vs : List V} {f : List Addr} {i : Int} {d : D} (h : Reps C W H xs vs f) (e : L2.atI xs i = some d) : ∃ v f', L2.atI vs i = some v ∧ Rep C W H d v f' := by
  unfold L2.atI at e ⊢
  rw [h.length]
  cases q : ixN xs.length i with
  | none => rw [q] at e; cases e
  | some j =>
    rw [q] at e
    obtain ⟨v, f', e1, e2, _⟩ := h.at (show xs[j]? = some d from e)
    exact ⟨v, f', e1, e2⟩
theorem at0_some {x : Option D} {rv : RV} (h : at0 x = some rv) : ∃ d, x = some d ∧ d.own = false ∧ rv = .sh d := by
  unfold at0 at h
  cases x with
  | none => cases h
  | some d =>
    dsimp only at h
    cases w : d.own with
    | true => rw [w, if_pos rfl] at h; cases h
    | false => rw [w, if_neg Bool.false_ne_true] at h; cases h; exact ⟨d, rfl, w, rfl⟩
theorem v2_ix (hu : X.A.units + 1 < cLine) : ∃ r : R2, IxR X r ∧ ∀ B A σ H g o Q x y dx dy fx fy, R C B A H σ g o → Rep C (W2 A o) H dx x fx → Rep C (W2 A o) H dy y fy → res C B A σ o H g Q (vIx dx dy) → r x y H Q := by
  refine ⟨_, ix_seq.or (ix_dict hu), fun B A σ H g o Q x y dx dy fx fy r hx hy po => ?_⟩
  cases dx with
  | str z =>
    cases dy with
    | int i =>
      obtain ⟨rfl, _⟩ := hx
      obtain ⟨rfl, _⟩ := hy
      simp only [vIx] at po
      split at po
      · rename_i c
        cases e : L2.atI z.cps.toList i with
        | none => rw [e] at po; exact po.elim
        | some q =>
          rw [e] at po
          exact .inl (.inr (.inr ⟨z, i, q, rfl, rfl, c, e, res_sh (d := .str ⟨#[q]⟩) r po ⟨rfl, rfl⟩⟩))
      · exact po.elim
    | _ => exact po.elim
  | obj ob s xs =>
    have get : ∀ d v f, d.own = false → Rep C (W2 A o) H d v f → res C B A σ o H g Q (some (.sh d)) → Q v H := fun d v f w q po => by
      have := q.sh w
      subst this
      exact res_sh r po q
    have dict : ∀ rv, at0 ((D.obj ob s xs).look dy).join = some rv → res C B A σ o H g Q (some rv) → ∃ a v, x = .ref a ∧ DGet H a y (some v) ∧ Q v H := fun rv e po => by
      obtain ⟨d, e1, w, rfl⟩ := at0_some e
      cases e2 : (D.obj ob s xs).look dy with
      | none => rw [e2] at e1; cases e1
      | some od =>
        rw [e2] at e1
        cases od with
        | none => cases e1
        | some d' =>
          obtain rfl : d' = d := Option.some.inj e1
          obtain ⟨a, ov, rfl, gg, _, z⟩ := look_get hx hy e2
          obtain ⟨v, f, rfl, q, _⟩ := z _ rfl
          exact ⟨a, v, rfl, gg, get _ v f w q po⟩
    have seq : ∀ i rv, dy = .int i → at0 (L2.atI xs i) = some rv → res C B A σ o H g Q (some rv) → ∃ a vs v, x = .ref a ∧ y = .int i ∧ Std C H a s vs ∧ L2.atI vs i = some v ∧ Q v H := fun i rv ei e po => by
      subst ei
      obtain ⟨rfl, _⟩ := hy
      obtain ⟨d, e1, w, rfl⟩ := at0_some e
      obtain ⟨a, vs, f', rfl, hs, hr, _⟩ := hx.obj
      obtain ⟨v, f2, q1, q2⟩ := atI_reps hr e1
      exact ⟨a, vs, v, rfl, rfl, hs, q1, get d v f2 w q2 po⟩
    cases s with
    | lst =>
      cases dy with
      | int i =>
        simp only [vIx] at po
        cases e : at0 (L2.atI xs i) with
        | none => rw [e] at po; exact po.elim
        | some rv =>
          rw [e] at po
          obtain ⟨a, vs, v, rfl, rfl, hs, q1, q2⟩ := seq i rv rfl e po
          exact .inl (.inl ⟨a, vs, i, v, rfl, rfl, Std.sqL hs (.inl rfl), q1, q2⟩)
      | _ => exact po.elim
    | frz =>
      cases dy with
      | int i =>
        simp only [vIx] at po
        cases e : at0 (L2.atI xs i) with
        | none => rw [e] at po; exact po.elim
        | some rv =>
          rw [e] at po
          obtain ⟨a, vs, v, rfl, rfl, hs, q1, q2⟩ := seq i rv rfl e po
          exact .inl (.inl ⟨a, vs, i, v, rfl, rfl, Std.sqL hs (.inr rfl), q1, q2⟩)
      | _ => exact po.elim
    | tup =>
      cases dy with
      | int i =>
        simp only [vIx] at po
        cases e : at0 (L2.atI xs i) with
        | none => rw [e] at po; exact po.elim
        | some rv =>
          rw [e] at po
          obtain ⟨a, vs, v, rfl, rfl, hs, q1, q2⟩ := seq i rv rfl e po
          exact .inl (.inr (.inl ⟨a, vs, i, v, rfl, rfl, Std.sqT hs, q1, q2⟩))
      | _ => exact po.elim
    | kt =>
      cases dy with
      | int i =>
        simp only [vIx] at po
        cases e : at0 (L2.atI xs i) with
        | none => rw [e] at po; exact po.elim
        | some rv =>
          rw [e] at po
          obtain ⟨a, vs, v, rfl, rfl, hs, q1, q2⟩ := seq i rv rfl e po
          exact .inl (.inr (.inl ⟨a, vs, i, v, rfl, rfl, Std.sqK hs, q1, q2⟩))
      | _ => exact po.elim
    | dk ks =>
      simp only [vIx] at po
      cases e : at0 ((D.obj ob (.dk ks) xs).look dy).join with
      | none => rw [e] at po; exact po.elim
      | some rv => rw [e] at po; exact .inr (dict rv e po)
    | dt ks =>
      simp only [vIx] at po
      cases e : at0 ((D.obj ob (.dt ks) xs).look dy).join with
      | none => rw [e] at po; exact po.elim
      | some rv => rw [e] at po; exact .inr (dict rv e po)
    | ins c fs => exact po.elim
  | _ => exact po.elim
/-- in, or not in: n tells -/
theorem in_core (n : Bool) (hu : X.A.units + 65 < cLine) {op : CmpOp} {r1 r2 r3 r4 r5 : R2} (o1 : OpR X (compareOp op) r1) (o2 : OpR X (compareOp op) r2) (o3 : OpR X (compareOp op) r3) (o4 : OpR X (compareOp op) r4) (o5 : OpR X (compareOp op) r5)
    (h1 : ∀ a b H Q, Q (V.bl (n ^^ !(Builtin.Str.occurrences b a 0 b.length 1).isEmpty)) H → r1 (.str a) (.str b) H Q)
    (h2 : ∀ x p xs H (Q : VK), (SqL X.K H p xs ∨ SqT X.K H p xs) → flatV x = true → xs.all flatV = true → Q (.bl (n ^^ inV x xs)) H → r2 x (.ref p) H Q)
    (h3 : ∀ x y H d ds (Q : VK), Dp X.K H x d → Dp X.K H y (.list ds) → SeqAt.shaped d = true → SeqAt.shaped (.list ds) = true → Q (.bl (n ^^ ds.any fun z => PyData.eqv z d)) H → r3 x y H Q)
    (h4 : ∀ x y H d ds (Q : VK), Dp X.K H x d → Dp X.K H y (.tuple ds) → SeqAt.shaped d = true → SeqAt.shaped (.tuple ds) = true → Q (.bl (n ^^ ds.any fun z => PyData.eqv z d)) H → r4 x y H Q)
    (h5 : ∀ x a H ov (Q : VK), DGet H a x ov → Q (.bl (n ^^ ov.isSome)) H → r5 x (.ref a) H Q) :
    V2 C X (compareOp op) fun x y => (hasIn x y).map fun b => .sh (.bl (n ^^ b)) := by
  refine ⟨_, (o1.or o2).or ((o3.or o4).or o5), fun B A σ H g o Q x y dx dy fx fy r hx hy po => ?_⟩
  dsimp only at po
  cases e : hasIn dx dy with
  | none => rw [e] at po; exact po.elim
  | some b =>
    rw [e] at po
    have q : Q (.bl (n ^^ b)) H := res_sh r po ⟨rfl, rfl⟩
    cases dy with
    | str z =>
      cases dx with
      | str a =>
        obtain ⟨rfl, _⟩ := hx
        obtain ⟨rfl, _⟩ := hy
        cases e
        exact .inl (.inl (h1 _ _ _ _ q))
      | _ => cases e
    | obj ob s xs =>
      cases s with
      | lst =>
        have deep : (if (dx.shp && (D.obj ob .lst xs).shp) = true then some ((pys xs).any fun z => PyData.eqv z dx.py) else none) = some b → r3 x y H Q := fun e => by
          by_cases c : (dx.shp && (D.obj ob .lst xs).shp) = true
          · rw [if_pos c] at e
            cases e
            obtain ⟨c1, c2⟩ := Bool.and_eq_true_iff.mp c
            exact h3 _ _ _ _ _ _ (hx.dps c1) (hy.dps c2) c1 c2 q
          · rw [if_neg c] at e; cases e
        unfold hasIn at e
        dsimp only at e
        cases e1 : dx.scal with
        | none => rw [e1] at e; exact .inr (.inl (.inl (deep e)))
        | some u =>
          cases e2 : scals xs with
          | none => rw [e1, e2] at e; exact .inr (.inl (.inl (deep e)))
          | some us =>
            rw [e1, e2] at e
            cases e
            obtain ⟨rfl, fu⟩ := hx.scal e1
            obtain ⟨a, vs, f', rfl, hs, hr, _⟩ := hy.obj
            obtain ⟨rfl, fus⟩ := hr.scals e2
            exact .inl (.inr (h2 _ _ _ _ _ (.inl (Std.sqL hs (.inl rfl))) fu fus q))
      | tup =>
        have deep : (if (dx.shp && (D.obj ob .tup xs).shp) = true then some ((pys xs).any fun z => PyData.eqv z dx.py) else none) = some b → r4 x y H Q := fun e => by
          by_cases c : (dx.shp && (D.obj ob .tup xs).shp) = true
          · rw [if_pos c] at e
            cases e
            obtain ⟨c1, c2⟩ := Bool.and_eq_true_iff.mp c
            exact h4 _ _ _ _ _ _ (hx.dps c1) (hy.dps c2) c1 c2 q
          · rw [if_neg c] at e; cases e
        unfold hasIn at e
        dsimp only at e
        cases e1 : dx.scal with
        | none => rw [e1] at e; exact .inr (.inl (.inr (deep e)))
        | some u =>
          cases e2 : scals xs with
          | none => rw [e1, e2] at e; exact .inr (.inl (.inr (deep e)))
          | some us =>
            rw [e1, e2] at e
            cases e
            obtain ⟨rfl, fu⟩ := hx.scal e1
            obtain ⟨a, vs, f', rfl, hs, hr, _⟩ := hy.obj
            obtain ⟨rfl, fus⟩ := hr.scals e2
            exact .inl (.inr (h2 _ _ _ _ _ (.inr (Std.sqT hs)) fu fus q))
      | dk ks =>
        cases e2 : (D.obj ob (.dk ks) xs).look dx with
        | none => simp [hasIn, e2] at e
        | some od =>
          simp only [hasIn, e2, Option.map_some, Option.some.injEq] at e
          subst e
          obtain ⟨a, ov, rfl, gg, z1, z2⟩ := look_get hy hx e2
          refine .inr (.inr (h5 _ _ _ _ _ gg ?_))
          have : ov.isSome = od.isSome := by
            cases od with
            | none => rw [z1 rfl]; rfl
            | some d => obtain ⟨v, f, rfl, _⟩ := z2 d rfl; rfl
          rw [this]
          exact q
      | dt ks =>
        cases e2 : (D.obj ob (.dt ks) xs).look dx with
        | none => simp [hasIn, e2] at e
        | some od =>
          simp only [hasIn, e2, Option.map_some, Option.some.injEq] at e
          subst e
          obtain ⟨a, ov, rfl, gg, z1, z2⟩ := look_get hy hx e2
          refine .inr (.inr (h5 _ _ _ _ _ gg ?_))
          have : ov.isSome = od.isSome := by
            cases od with
            | none => rw [z1 rfl]; rfl
            | some d => obtain ⟨v, f, rfl, _⟩ := z2 d rfl; rfl
          rw [this]
          exact q
      | _ => cases e
    | _ => cases e
theorem v2_in (hu : X.A.units + 65 < cLine) : V2 C X (compareOp .In) vIn := by
  have h := in_core (C := C) (X := X) false hu op_in_str op_in_seq (op_inD hu) (op_inDT hu) (op_in_dict (by omega))
    (fun a b H Q q => ⟨a, b, rfl, rfl, by simpa using q⟩) (fun x p xs H Q hs fx fs q => ⟨p, xs, rfl, hs, fx, fs, by simpa using q⟩) (fun x y H d ds Q h1 h2 h3 h4 q => ⟨d, ds, h1, h2, h3, h4, by simpa using q⟩)
    (fun x y H d ds Q h1 h2 h3 h4 q => ⟨d, ds, h1, h2, h3, h4, by simpa using q⟩) (fun x a H ov Q h1 q => ⟨a, ov, rfl, h1, by simpa using q⟩)
  have e : (fun x y => (hasIn x y).map fun b => RV.sh (.bl (false ^^ b))) = vIn := by
    funext x y
    simp [vIn]
  rw [← e]
  exact h
theorem v2_notIn (hu : X.A.units + 65 < cLine) : V2 C X (compareOp .NotIn) vNotIn := by
  have h := in_core (C := C) (X := X) true hu op_notIn_str op_notIn_seq (op_notInD hu) (op_notInDT hu) (op_notIn_dict (by omega))
    (fun a b H Q q => ⟨a, b, rfl, rfl, by simpa using q⟩) (fun x p xs H Q hs fx fs q => ⟨p, xs, rfl, hs, fx, fs, by simpa using q⟩) (fun x y H d ds Q h1 h2 h3 h4 q => ⟨d, ds, h1, h2, h3, h4, by simpa using q⟩)
    (fun x y H d ds Q h1 h2 h3 h4 q => ⟨d, ds, h1, h2, h3, h4, by simpa using q⟩) (fun x a H ov Q h1 q => ⟨a, ov, rfl, h1, by simpa using q⟩)
  have e : (fun x y => (hasIn x y).map fun b => RV.sh (.bl (true ^^ b))) = vNotIn := by
    funext x y
    simp [vNotIn]
  rw [← e]
  exact h
end
end VL

set_option Elab.async false
set_option linter.all false
set_option maxRecDepth 100000
set_option maxHeartbeats 1000000
/-! Tests, and, or, not, chains, conditional expressions, slices. -/
namespace VL
open PySem PySem.Spec L2

section
variable {C : CMap} {X : Cx}
def PostB (C : CMap) (B : List (Nat × V)) (A : AP) (W : WX) (σ : L2.St) (o : Ow) (H : Hp) (Q : Bool → Hp → Prop) : Out Bool → Prop
  | .ok b g' => ∀ H' o', R C B A H' σ g' o' → Ext (inO o) (inO o') H H' → Q b H'
  | .exc x g' => ∀ cls d H' o', R C B A H' σ g' o' → Ext (inO o) (inO o') H H' → ExR C (W2 A o') x cls d H' → W cls d σ H'
  | .stuck => False
def VT (C : CMap) (X : Cx) (e : Expr) (m : M Bool) : Prop :=
  ∀ W : WX, Takes X W → ∃ t : TT, PT X e t ∧ ∀ B A σ H g o Q, R C B A H σ g o → PostB C B A W σ o H Q (m g) → t σ H Q
/-- .. whatever its whole (and, or) -/
def VW (C : CMap) (X : Cx) (e : Expr) (m : M Bool) : Prop :=
  ∀ W : WX, Takes X W → ∃ t : TT, PW X e t ∧ ∀ B A σ H g o Q, R C B A H σ g o → PostB C B A W σ o H Q (m g) → t σ H Q
theorem VW.vt {e : Expr} {m : M Bool} (h : VW C X e m) : VT C X e m := fun W tk => by
  obtain ⟨t, p, q⟩ := h W tk
  exact ⟨t, p.pt, q⟩
def M.toB (m : M RV) : M Bool := fun g => match m g with
  | .ok (.sh (.bl b)) g' => .ok b g'
  | .ok _ _ => .stuck
  | .exc x g' => .exc x g'
  | .stuck => .stuck
theorem post_toB {W : WX} {B : List (Nat × V)} {A : AP} {σ : L2.St} {H : Hp} {g : G} {o : Ow} {Q : Bool → Hp → Prop} {m : M RV} (po : PostB C B A W σ o H Q (M.toB m g)) : PostE C B A W σ o H (fun x H' => ∃ k, x = .bl k ∧ Q k H') (m g) := by
  unfold M.toB at po
  cases e : m g with
  | ok rv g' =>
    rw [e] at po
    cases rv with
    | sh d =>
      cases d with
      | bl b =>
        intro v H' o' fr r x rr
        obtain ⟨rfl, q, _⟩ := rr
        rw [por_nil] at r
        exact ⟨b, q, po H' o' r (x.mono fun _ => .inl)⟩
      | _ => exact po.elim
    | _ => exact po.elim
  | exc x g' => rw [e] at po; exact po
  | stuck => rw [e] at po; exact po
/-- an expression that is tested by its value -/
def plainT : Expr → Bool
  | .Name .. => true
  | .Call .. => true
  | .Constant .. => true
  | .Attribute .. => true
  | .Subscript .. => true
  | _ => false
theorem isTrue_plainT {e : Expr} (h : plainT e = true) (env : Env) (whole : Sem Value) : isTrue e env whole = (do let v ← whole; standAt e.pos; holding [v] (truthy v)) := by
  cases e <;> first | rfl | cases h
theorem vt_val {e : Expr} {m : M RV} (h : VE C X e m) (hp : plainT e = true) : VT C X e (M.toB m) := fun W tk => by
  obtain ⟨t, p, q⟩ := h W tk
  exact ⟨tB t, pt_val p (isTrue_plainT hp _), fun B A σ H g o Q r po => q B A σ H g o _ r (post_toB po)⟩
theorem vt_cmp {a b : Expr} {op : CmpOp} {ma mb : M RV} {vf : D → D → Option RV} {pos : Pos} (ho : V2 C X (compareOp op) vf) (ha : VO C X a ma) (hb : VO C X b mb) (hn : noSet b = true) : VT C X (.Compare a [op] [b] pos) (M.toB (M.op2 vf ma mb)) := fun W tk => by
  obtain ⟨r2, o2, h⟩ := ho
  obtain ⟨ta, tb, pa, pb, q⟩ := v_two ha hb W tk
  exact ⟨tTest (tOp r2 ta tb), pt_cmpR o2 pa pb (nomark2 hn), fun B A σ H g o Q r po => q B A σ H g o _ r (post_two (f := compareOp op) h r (post_toB po))⟩
def M.notB (m : M Bool) : M Bool := M.bind m fun b => M.pure (!b)
def M.andB (m k : M Bool) : M Bool := M.bind m fun b => if b = true then k else M.pure false
def M.orB (m k : M Bool) : M Bool := M.bind m fun b => if b = true then M.pure true else k
theorem vt_not {a : Expr} {m : M Bool} {pos : Pos} (ha : VT C X a m) : VT C X (.UnaryOp .Not a pos) (M.notB m) := fun W tk => by
  obtain ⟨t, p, q⟩ := ha W tk
  refine ⟨tNot t, pt_not p, fun B A σ H g o Q r po => q B A σ H g o _ r ?_⟩
  unfold M.notB M.bind at po
  cases e : m g with
  | ok b g' => rw [e] at po; exact po
  | exc x g' => rw [e] at po; exact po
  | stuck => rw [e] at po; exact po
theorem vw_one {op : BoolOp} {a : Expr} {m : M Bool} {pos : Pos} (ha : VT C X a m) : VW C X (.BoolOp op [a] pos) m := fun W tk => by
  obtain ⟨t, p, q⟩ := ha W tk
  cases op with
  | And => exact ⟨t, pw_and1 p, q⟩
  | Or => exact ⟨t, pw_or1 p, q⟩
/-- behind a test -/
theorem post_then {α : Type} {W : WX} {B : List (Nat × V)} {A : AP} {σ : L2.St} {H : Hp} {g : G} {o : Ow} {m : M Bool} {f : Bool → M α} {P : Ow → Hp → Out α → Prop} {K : Bool → Hp → Prop}
    (r : R C B A H σ g o) (po : P o H (M.bind m f g)) (hex : ∀ x g', P o H (.exc x g') → PostB C B A W σ o H K (.exc x g')) (hst : ¬ P o H .stuck)
    (h : ∀ b H1 g1 o1, R C B A H1 σ g1 o1 → Ext (inO o) (inO o1) H H1 → P o H (f b g1) → K b H1) : PostB C B A W σ o H K (m g) := by
  unfold M.bind at po
  cases e : m g with
  | ok b g1 => rw [e] at po; exact fun H1 o1 r1 x1 => h b H1 g1 o1 r1 x1 po
  | exc x g1 => rw [e] at po; exact hex x g1 po
  | stuck => rw [e] at po; exact (hst po).elim
theorem PostB.later {W : WX} {B : List (Nat × V)} {A : AP} {σ : L2.St} {H H1 : Hp} {g : G} {o o1 : Ow} {Q : Bool → Hp → Prop} {r : Out Bool} (rr : R C B A H σ g o) (x1 : Ext (inO o) (inO o1) H H1) (po : PostB C B A W σ o H Q r) : PostB C B A W σ o1 H1 Q r := by
  cases r with
  | ok b g' => exact fun H' o' r' x' => po H' o' r' (x1.trans x' rr.lo)
  | exc x g' => exact fun cls d H' o' r' x' => po cls d H' o' r' (x1.trans x' rr.lo)
  | stuck => exact po
theorem PostE.later {W : WX} {B : List (Nat × V)} {A : AP} {σ : L2.St} {H H1 : Hp} {g : G} {o o1 : Ow} {Q : VK} {r : Out RV} (rr : R C B A H σ g o) (x1 : Ext (inO o) (inO o1) H H1) (po : PostE C B A W σ o H Q r) : PostE C B A W σ o1 H1 Q r := by
  cases r with
  | ok b g' => exact fun v H' o' fr r' x' => po v H' o' fr r' (x1.trans x' rr.lo)
  | exc x g' => exact fun cls d H' o' r' x' => po cls d H' o' r' (x1.trans x' rr.lo)
  | stuck => exact po
theorem vw_and {a b : Expr} {es : List Expr} {m k : M Bool} {pos : Pos} (ha : VT C X a m) (hb : VW C X (.BoolOp .And (b :: es) pos) k) : VW C X (.BoolOp .And (a :: b :: es) pos) (M.andB m k) := fun W tk => by
  obtain ⟨t, p, q⟩ := ha W tk
  obtain ⟨u, p2, q2⟩ := hb W tk
  refine ⟨tAnd t u, pw_and p p2, fun B A σ H g o Q r po => q B A σ H g o _ r ?_⟩
  refine post_then (P := fun o H z => PostB C B A W σ o H Q z) r po (fun _ _ z => z) id fun c H1 g1 o1 r1 x1 po => ?_
  have po := po.later r x1
  cases c with
  | true => rw [if_pos rfl] at po ⊢; exact q2 B A σ H1 g1 o1 Q r1 po
  | false => rw [if_neg Bool.false_ne_true] at po ⊢; exact po H1 o1 r1 .refl
theorem vw_or {a b : Expr} {es : List Expr} {m k : M Bool} {pos : Pos} (ha : VT C X a m) (hb : VW C X (.BoolOp .Or (b :: es) pos) k) : VW C X (.BoolOp .Or (a :: b :: es) pos) (M.orB m k) := fun W tk => by
  obtain ⟨t, p, q⟩ := ha W tk
  obtain ⟨u, p2, q2⟩ := hb W tk
  refine ⟨tOr t u, pw_or p p2, fun B A σ H g o Q r po => q B A σ H g o _ r ?_⟩
  refine post_then (P := fun o H z => PostB C B A W σ o H Q z) r po (fun _ _ z => z) id fun c H1 g1 o1 r1 x1 po => ?_
  have po := po.later r x1
  cases c with
  | true => rw [if_pos rfl] at po ⊢; exact po H1 o1 r1 .refl
  | false => rw [if_neg Bool.false_ne_true] at po ⊢; exact q2 B A σ H1 g1 o1 Q r1 po
/-! values -/
def M.ofB (m : M Bool) : M RV := M.bind m fun b => M.pure (.sh (.bl b))
theorem v_not {a : Expr} {m : M RV} {pos : Pos} (ha : VE C X a m) : VE C X (.UnaryOp .Not a pos) (M.ofB (M.notB (M.toB m))) := fun W tk => by
  obtain ⟨t, p, q⟩ := ha W tk
  refine ⟨tNotV t, pe_not p, fun B A σ H g o Q r po => q B A σ H g o _ r ?_⟩
  have po : PostB C B A W σ o H (fun b H' => Q (.bl (!b)) H') (M.toB m g) := by
    unfold M.ofB M.notB M.bind at po
    cases e : M.toB m g with
    | ok b g' =>
      rw [e] at po
      exact fun H' o' r' x' => po (.bl (!b)) H' o' [] (by rw [por_nil]; exact r') (x'.mono fun _ z => z.elim id fun z => nomatch z) ⟨rfl, rfl, rfl⟩
    | exc x g' => rw [e] at po; exact po
    | stuck => rw [e] at po; exact po
  have z := post_toB po
  refine PostE_imp z fun x H' ⟨k, e, q⟩ => ⟨k, e, q⟩
where
  PostE_imp {W : WX} {B : List (Nat × V)} {A : AP} {σ : L2.St} {H : Hp} {o : Ow} {Q Q' : VK} {r : Out RV} (po : PostE C B A W σ o H Q r) (h : ∀ v H', Q v H' → Q' v H') : PostE C B A W σ o H Q' r := by
    cases r with
    | ok b g' => exact fun v H' o' fr r' x' rr => h _ _ (po v H' o' fr r' x' rr)
    | exc x g' => exact po
    | stuck => exact po
theorem v_one {op : BoolOp} {a : Expr} {m : M RV} {pos : Pos} (ha : VE C X a m) : VE C X (.BoolOp op [a] pos) m := fun W tk => by
  obtain ⟨t, p, q⟩ := ha W tk
  exact ⟨t, pe_one p, q⟩
def M.andE (m k : M RV) : M RV := M.bind (M.toB m) fun b => if b = true then k else M.pure (.sh (.bl false))
def M.orE (m k : M RV) : M RV := M.bind (M.toB m) fun b => if b = true then M.pure (.sh (.bl true)) else k
theorem post_ok {W : WX} {B : List (Nat × V)} {A : AP} {σ : L2.St} {H : Hp} {g : G} {o : Ow} {Q : VK} {b : Bool} (r : R C B A H σ g o) (po : PostE C B A W σ o H Q (.ok (.sh (.bl b)) g)) : Q (.bl b) H := ok_scal r po ⟨rfl, rfl⟩
theorem v_and {a b : Expr} {es : List Expr} {m k : M RV} {pos : Pos} (ha : VE C X a m) (hb : VE C X (.BoolOp .And (b :: es) pos) k) : VE C X (.BoolOp .And (a :: b :: es) pos) (M.andE m k) := fun W tk => by
  obtain ⟨t, p, q⟩ := ha W tk
  obtain ⟨u, p2, q2⟩ := hb W tk
  refine ⟨tAndV t u, pe_and p p2, fun B A σ H g o Q r po => q B A σ H g o _ r (post_toB ?_)⟩
  refine post_then (P := fun o H z => PostE C B A W σ o H Q z) r po (fun _ _ z => z) id fun c H1 g1 o1 r1 x1 po => ?_
  have po := po.later r x1
  cases c with
  | true => rw [if_pos rfl] at po ⊢; exact q2 B A σ H1 g1 o1 Q r1 po
  | false => rw [if_neg Bool.false_ne_true] at po ⊢; exact post_ok r1 po
theorem v_or {a b : Expr} {es : List Expr} {m k : M RV} {pos : Pos} (ha : VE C X a m) (hb : VE C X (.BoolOp .Or (b :: es) pos) k) : VE C X (.BoolOp .Or (a :: b :: es) pos) (M.orE m k) := fun W tk => by
  obtain ⟨t, p, q⟩ := ha W tk
  obtain ⟨u, p2, q2⟩ := hb W tk
  refine ⟨tOrV t u, pe_or p p2, fun B A σ H g o Q r po => q B A σ H g o _ r (post_toB ?_)⟩
  refine post_then (P := fun o H z => PostE C B A W σ o H Q z) r po (fun _ _ z => z) id fun c H1 g1 o1 r1 x1 po => ?_
  have po := po.later r x1
  cases c with
  | true => rw [if_pos rfl] at po ⊢; exact post_ok r1 po
  | false => rw [if_neg Bool.false_ne_true] at po ⊢; exact q2 B A σ H1 g1 o1 Q r1 po
def M.ite (c : M Bool) (a b : M RV) : M RV := M.bind c fun z => if z = true then a else b
theorem v_ifExp {c a b : Expr} {m : M Bool} {ka kb : M RV} {pos : Pos} (hc : VT C X c m) (ha : VE C X a ka) (hb : VE C X b kb) : VE C X (.IfExp c a b pos) (M.ite m ka kb) := fun W tk => by
  obtain ⟨t, p, q⟩ := hc W tk
  obtain ⟨u, p2, q2⟩ := ha W tk
  obtain ⟨u3, p3, q3⟩ := hb W tk
  refine ⟨tIf t u u3, pe_ifExp p p2 p3, fun B A σ H g o Q r po => q B A σ H g o _ r ?_⟩
  refine post_then (P := fun o H z => PostE C B A W σ o H Q z) r po (fun _ _ z => z) id fun c H1 g1 o1 r1 x1 po => ?_
  have po := po.later r x1
  cases c with
  | true => rw [if_pos rfl] at po ⊢; exact q2 B A σ H1 g1 o1 Q r1 po
  | false => rw [if_neg Bool.false_ne_true] at po ⊢; exact q3 B A σ H1 g1 o1 Q r1 po
/-! a op b op' c -/
def isBl : RV → Option Bool
  | .sh (.bl b) => some b
  | _ => none
def M.chain (vf vf' : D → D → Option RV) (a b c : M RV) : M RV := M.bind (M.two a b) fun p => fun g => match p.1.at g, p.2.at g with
  | some x, some y => (match vf x y with
    | some (.sh (.bl true)) => M.bind c (fun z => fun g => if p.2.live g = true then M.at2 vf' (p.2, z) g else .stuck) g
    | some (.sh (.bl false)) => .ok (.sh (.bl false)) g
    | _ => .stuck)
  | _, _ => .stuck
theorem chain_core {a b c : Expr} {op op' : CmpOp} {ma mb mc : M RV} {vf vf' : D → D → Option RV} {r2 r2' : R2}
    (h : ∀ B A σ H g o Q x y dx dy fx fy, R C B A H σ g o → Rep C (W2 A o) H dx x fx → Rep C (W2 A o) H dy y fy → res C B A σ o H g Q (vf dx dy) → r2 x y H Q)
    (h' : ∀ B A σ H g o Q x y dx dy fx fy, R C B A H σ g o → Rep C (W2 A o) H dx x fx → Rep C (W2 A o) H dy y fy → res C B A σ o H g Q (vf' dx dy) → r2' x y H Q)
    (ha : VO C X a ma) (hb : VO C X b mb) (hc : VO C X c mc) : ∀ W : WX, Takes X W → ∃ ta tb tc : TE, PE X a ta ∧ PE X b tb ∧ PE X c tc ∧
      ∀ B A σ H g o Q, R C B A H σ g o → PostE C B A W σ o H Q (M.chain vf vf' ma mb mc g) → tChain r2 r2' ta tb tc σ H Q := fun W tk => by
  obtain ⟨ta, tb, pa, pb, q⟩ := v_two ha hb W tk
  obtain ⟨tc, pc, q3⟩ := hc W tk
  refine ⟨ta, tb, tc, pa, pb, pc, fun B A σ H g o Q r po => q B A σ H g o _ r ?_⟩
  unfold M.chain M.bind at po
  cases e1 : M.two ma mb g with
  | exc x g1 => rw [e1] at po; exact po
  | stuck => rw [e1] at po; exact po
  | ok p g1 =>
    obtain ⟨x, y⟩ := p
    rw [e1] at po
    intro u v H1 o1 r1 x1 rx ry
    dsimp only at po
    cases ex : x.at g1 with
    | none => rw [ex] at po; exact po.elim
    | some dx =>
      cases ey : y.at g1 with
      | none => rw [ex, ey] at po; exact po.elim
      | some dy =>
        rw [ex, ey] at po
        obtain ⟨fx, px, _⟩ := rx.rep r1 ex
        obtain ⟨fy, py, _⟩ := ry.rep r1 ey
        refine h B A σ H1 g1 o1 _ u v dx dy fx fy r1 px py ?_
        dsimp only at po
        cases ez : vf dx dy with
        | none => rw [ez] at po; exact po.elim
        | some rv =>
          rw [ez] at po
          cases rv with
          | ow d => exact po.elim
          | pl i => exact po.elim
          | sh d =>
            cases d with
            | bl k =>
              intro w H2 fr r2 x2 rr
              obtain ⟨rfl, rfl, _⟩ := rr
              rw [por_nil] at r2
              refine ⟨k, rfl, ?_⟩
              have x2 : Ext (inO o1) (inO o1) H1 H2 := x2.mono fun _ => .inl
              cases k with
              | false =>
                rw [if_neg Bool.false_ne_true]
                exact ok_scal r2 (PostE.later r (x1.trans x2 r.lo) po) ⟨rfl, rfl⟩
              | true =>
                rw [if_pos rfl]
                dsimp only at po
                refine q3 B A σ H2 g1 o1 _ r2 ?_
                cases e3 : mc g1 with
                | exc z g3 => rw [e3] at po; exact fun cls d H3 o3 r3 x3 => po cls d H3 o3 r3 ((x1.trans x2 r.lo).trans x3 r.lo)
                | stuck => rw [e3] at po; exact po
                | ok z g3 =>
                  rw [e3] at po
                  intro w3 H3 o3 r3 x3 rz
                  dsimp only at po
                  cases l : y.live g3 with
                  | false => rw [l, if_neg Bool.false_ne_true] at po; exact po.elim
                  | true =>
                    rw [l, if_pos rfl] at po
                    have ry3 := ry.stay2 r1 r3 (x2.trans x3 r1.lo) l
                    unfold M.at2 at po
                    dsimp only at po
                    cases fy3 : y.at g3 with
                    | none => rw [fy3] at po; exact po.elim
                    | some dy3 =>
                      cases fz3 : z.at g3 with
                      | none => rw [fy3, fz3] at po; exact po.elim
                      | some dz3 =>
                        rw [fy3, fz3] at po
                        obtain ⟨f1, p1, _⟩ := ry3.rep r3 fy3
                        obtain ⟨f2, p2, _⟩ := rz.rep r3 fz3
                        refine h' B A σ H3 g3 o3 Q v w3 dy3 dz3 f1 f2 r3 p1 p2 ?_
                        dsimp only at po
                        cases ew : vf' dy3 dz3 with
                        | none => rw [ew] at po; exact po.elim
                        | some rv4 =>
                          rw [ew] at po
                          intro w4 H4 fr4 r4 x4 rr4
                          exact po w4 H4 o3 fr4 r4 (((x1.trans x2 r.lo).trans x3 r.lo).trans x4 r.lo) rr4
            | _ => exact po.elim
theorem lastMarks2 {op op' : CmpOp} {b c : Expr} (h : noSet c = true) : lastMarks [op, op'] [b, c] = false := by
  show lastMarks [op'] [c] = false
  exact nomark2 h
theorem v_chain {a b c : Expr} {op op' : CmpOp} {ma mb mc : M RV} {vf vf' : D → D → Option RV} {pos : Pos} (ho : V2 C X (compareOp op) vf) (ho' : V2 C X (compareOp op') vf') (ha : VO C X a ma) (hb : VO C X b mb) (hc : VO C X c mc) (hn : noSet c = true) :
    VE C X (.Compare a [op, op'] [b, c] pos) (M.chain vf vf' ma mb mc) := fun W tk => by
  obtain ⟨r2, o2, h⟩ := ho
  obtain ⟨r2', o2', h'⟩ := ho'
  obtain ⟨ta, tb, tc, pa, pb, pc, q⟩ := chain_core (op := op) (op' := op') h h' ha hb hc W tk
  exact ⟨tChain r2 r2' ta tb tc, pe_chain o2 o2' pa pb pc (lastMarks2 hn), q⟩
theorem vt_chain {a b c : Expr} {op op' : CmpOp} {ma mb mc : M RV} {vf vf' : D → D → Option RV} {pos : Pos} (ho : V2 C X (compareOp op) vf) (ho' : V2 C X (compareOp op') vf') (ha : VO C X a ma) (hb : VO C X b mb) (hc : VO C X c mc) (hn : noSet c = true) :
    VT C X (.Compare a [op, op'] [b, c] pos) (M.toB (M.chain vf vf' ma mb mc)) := fun W tk => by
  obtain ⟨r2, o2, h⟩ := ho
  obtain ⟨r2', o2', h'⟩ := ho'
  obtain ⟨ta, tb, tc, pa, pb, pc, q⟩ := chain_core (op := op) (op' := op') h h' ha hb hc W tk
  exact ⟨tTest (tChain r2 r2' ta tb tc), pt_chain o2 o2' pa pb pc (lastMarks2 hn), fun B A σ H g o Q r po => q B A σ H g o _ r (post_toB po)⟩
/-! -x -/
def M.neg (m : M RV) : M RV := M.bind m fun x => match x with
  | .sh (.int i) => M.pure (.sh (.int (-i)))
  | _ => M.stuck
theorem v_neg {a : Expr} {m : M RV} {pos : Pos} (ha : VO C X a m) : VE C X (.UnaryOp .USub a pos) (M.neg m) := fun W tk => by
  obtain ⟨t, p, q⟩ := ha W tk
  refine ⟨tUn (rU fun i => .int (-i)) t, pe_un un_neg p, fun B A σ H g o Q r po => q B A σ H g o _ r ?_⟩
  unfold M.neg M.bind at po
  cases e : m g with
  | exc x g1 => rw [e] at po; exact po
  | stuck => rw [e] at po; exact po
  | ok x g1 =>
    rw [e] at po
    intro v H1 o1 r1 x1 rr
    cases x with
    | sh d =>
      cases d with
      | int i =>
        obtain ⟨_, rfl, _⟩ := rr
        exact ⟨i, rfl, ok_scal (v := .int (-i)) r1 (PostE.later r x1 po) ⟨rfl, rfl⟩⟩
      | _ => exact po.elim
    | _ => exact po.elim
end
end VL

set_option Elab.async false
set_option linter.all false
set_option maxRecDepth 100000
set_option maxHeartbeats 1000000
/-! Statements. -/
namespace VL
open PySem PySem.Spec L2

inductive Fl where
  | nx (g : G) | ret (rv : RV) (g : G) | brk (g : G) | cont (g : G) | exc (x : Ex) (g : G) | stuck
abbrev S := G → Fl
def PostS (C : CMap) (B : List (Nat × V)) (A : AP) (W : WX) (o : Ow) (H : Hp) (D : Ends) : Fl → Prop
  | .nx g' => ∀ σ' H' o', R C B A H' σ' g' o' → Ext (inO o) (inO o') H H' → D.nx σ' H'
  | .brk g' => ∀ σ' H' o', R C B A H' σ' g' o' → Ext (inO o) (inO o') H H' → D.bk σ' H'
  | .cont g' => ∀ σ' H' o', R C B A H' σ' g' o' → Ext (inO o) (inO o') H H' → D.ct σ' H'
  | .ret rv g' => ∀ v σ' H' o' fr, R C B (por A fr) H' σ' g' o' → Ext (inO o) (fun a => inO o' a ∨ a ∈ fr) H H' → RVR C A o' H' σ' g' rv v fr → D.rt v H'
  | .exc x g' => ∀ cls d σ' H' o', R C B A H' σ' g' o' → Ext (inO o) (inO o') H H' → ExR C (W2 A o') x cls d H' → W cls d σ' H'
  | .stuck => False
section
variable (C : CMap) (Fx : Nat → Bool) (X : Cx)
/-- the slots of B stay: F tells which do -/
def BF (Fx : Nat → Bool) (B : List (Nat × V)) : Prop := ∀ p ∈ B, Fx p.1 = true
def VS (st : Stmt) (m : S) : Prop :=
  ∀ W : WX, Takes X W → ∃ t : TS, PS X st t ∧ ∀ B A σ H g o D, BF Fx B → R C B A H σ g o → PostS C B A W o H D (m g) → t D σ H
def VSs (sts : List Stmt) (m : S) : Prop :=
  ∀ W : WX, Takes X W → ∃ t : TS, PSs X sts t ∧ ∀ B A σ H g o D, BF Fx B → R C B A H σ g o → PostS C B A W o H D (m g) → t D σ H
end
theorem PostS.later {C : CMap} {B : List (Nat × V)} {A : AP} {W : WX} {σ : L2.St} {H H1 : Hp} {g : G} {o o1 : Ow} {D : Ends} {r : Fl} (rr : R C B A H σ g o) (x1 : Ext (inO o) (inO o1) H H1) (po : PostS C B A W o H D r) : PostS C B A W o1 H1 D r := by
  cases r with
  | nx g' => exact fun σ' H' o' r' x' => po σ' H' o' r' (x1.trans x' rr.lo)
  | brk g' => exact fun σ' H' o' r' x' => po σ' H' o' r' (x1.trans x' rr.lo)
  | cont g' => exact fun σ' H' o' r' x' => po σ' H' o' r' (x1.trans x' rr.lo)
  | ret rv g' => exact fun v σ' H' o' fr r' x' => po v σ' H' o' fr r' (x1.trans x' rr.lo)
  | exc x g' => exact fun cls d σ' H' o' r' x' => po cls d σ' H' o' r' (x1.trans x' rr.lo)
  | stuck => exact po

/-! ### slots written -/
section
variable {C : CMap} {B : List (Nat × V)} {A : AP} {H : Hp} {σ : L2.St} {g : G} {o : Ow} {fr : List Addr} {Fx : Nat → Bool}
theorem bd_set (r : R C B A H σ g o) (hB : BF Fx B) {i : Nat} (hi : Fx i = false) {x : Option V} : ∀ p ∈ B, (σ.set i x)[p.1]? = some (some p.2) := fun p hp => by
  have hne : i ≠ p.1 := fun e => by
    have := hB p hp
    rw [← e, hi] at this
    cases this
  rw [List.getElem?_set_ne hne]
  exact r.bd p hp
theorem R.put (r : R C B A H σ g o) (hB : BF Fx B) {i : Nat} (hi : Fx i = false) {d : D} {v : V} (h : Rep C (W2 A o) H d v []) :
    R C B A H (σ.set i (some v)) (g.set i (some d)) (o.set i []) ∧ Ext (inO o) (inO (o.set i [])) H H := by
  have sub : ∀ a, inO (o.set i []) a → inO o a := fun a z => (inO_set z).elim id fun z => nomatch z
  refine ⟨⟨by rw [List.length_set, List.length_set]; exact r.len, fun j d' e' => ?_, fun j => ?_, fun j k a z1 z2 => ?_, fun j a z => ?_, fun j a z => ?_, r.lA, bd_set r hB hi, fun p hp => (r.xh p hp).to (fun _ _ e _ => e) fun a _ n z => n (z.imp_right (sub a))⟩, Ext.refl.mono sub⟩
  · by_cases h' : j = i
    · subst h'
      have hl := get_lt e'
      rw [List.length_set] at hl
      rw [List.getElem?_set_self hl] at e'
      cases e'
      exact ⟨v, List.getElem?_set_self (by rw [r.len]; exact hl), by rw [Ow.set_at]; exact h.less fun a z => z.imp_right (sub a)⟩
    · rw [List.getElem?_set_ne (fun z => h' z.symm)] at e'
      obtain ⟨u, eu, q⟩ := r.sl j d' e'
      refine ⟨u, by rw [List.getElem?_set_ne (fun z => h' z.symm)]; exact eu, ?_⟩
      rw [Ow.set_ne h']
      exact q.less fun a z => z.imp_right (sub a)
  · by_cases h' : j = i
    · subst h'; rw [Ow.set_at]; exact List.nodup_nil
    · rw [Ow.set_ne h']; exact r.nd j
  · by_cases h1 : j = i
    · subst h1; rw [Ow.set_at] at z1; cases z1
    · by_cases h2 : k = i
      · subst h2; rw [Ow.set_at] at z2; cases z2
      · rw [Ow.set_ne h1] at z1; rw [Ow.set_ne h2] at z2; exact r.dj j k a z1 z2
  · by_cases h1 : j = i
    · subst h1; rw [Ow.set_at] at z; cases z
    · rw [Ow.set_ne h1] at z; exact r.dA j a z
  · by_cases h1 : j = i
    · subst h1; rw [Ow.set_at] at z; cases z
    · rw [Ow.set_ne h1] at z; exact r.lv j a z
/-- a new value that is nobody else's comes into a slot -/
theorem R.keep (r : R C B (por A fr) H σ g o) (hB : BF Fx B) {i : Nat} (hi : Fx i = false) {d : D} {v : V} (h : RVR C A o H σ g (.ow d) v fr) :
    R C B A H (σ.set i (some v)) (g.set i (some d)) (o.set i fr) ∧ Ext (fun a => inO o a ∨ a ∈ fr) (inO (o.set i fr)) H H := by
  obtain ⟨nd, dis, h⟩ := h
  have sub : ∀ a, W2 A (o.set i fr) a → W2 (por A fr) o a := fun a z => z.elim (fun z => .inl (.inl z)) fun z => (inO_set z).elim .inr fun z => .inl (.inr z)
  refine ⟨⟨by rw [List.length_set, List.length_set]; exact r.len, fun j d' e' => ?_, fun j => ?_, fun j k a z1 z2 => ?_, fun j a z => ?_, fun j a z => ?_, fun a z => r.lA a (.inl z), bd_set r hB hi, fun p hp => (r.xh p hp).to (fun _ _ e _ => e) fun a _ n z => n (sub a z)⟩, Ext.refl.mono fun a z => inO_set z⟩
  · by_cases h' : j = i
    · subst h'
      have hl := get_lt e'
      rw [List.length_set] at hl
      rw [List.getElem?_set_self hl] at e'
      cases e'
      exact ⟨v, List.getElem?_set_self (by rw [r.len]; exact hl), by rw [Ow.set_at]; exact h.less sub⟩
    · rw [List.getElem?_set_ne (fun z => h' z.symm)] at e'
      obtain ⟨u, eu, q⟩ := r.sl j d' e'
      refine ⟨u, by rw [List.getElem?_set_ne (fun z => h' z.symm)]; exact eu, ?_⟩
      rw [Ow.set_ne h']
      exact q.less sub
  · by_cases h' : j = i
    · subst h'; rw [Ow.set_at]; exact nd
    · rw [Ow.set_ne h']; exact r.nd j
  · by_cases h1 : j = i
    · by_cases h2 : k = i
      · exact h1.trans h2.symm
      · subst h1; rw [Ow.set_at] at z1; rw [Ow.set_ne h2] at z2; exact absurd ⟨k, z2⟩ (dis a z1).2
    · by_cases h2 : k = i
      · subst h2; rw [Ow.set_at] at z2; rw [Ow.set_ne h1] at z1; exact absurd ⟨j, z1⟩ (dis a z2).2
      · rw [Ow.set_ne h1] at z1; rw [Ow.set_ne h2] at z2; exact r.dj j k a z1 z2
  · by_cases h1 : j = i
    · subst h1; rw [Ow.set_at] at z; exact (dis a z).1
    · rw [Ow.set_ne h1] at z; exact fun q => r.dA j a z (.inl q)
  · by_cases h1 : j = i
    · subst h1; rw [Ow.set_at] at z; exact r.lA a (.inr z)
    · rw [Ow.set_ne h1] at z; exact r.lv j a z
/-- an own value is taken out of its slot -/
theorem R.take (r : R C B A H σ g o) {i : Nat} {d : D} (e : g[i]? = some (some d)) : R C B (por A (o i)) H σ (g.set i none) (o.set i []) ∧
    Ext (inO o) (fun a => inO (o.set i []) a ∨ a ∈ o i) H H ∧ ∀ v, σ[i]? = some (some v) → RVR C A (o.set i []) H σ (g.set i none) (.ow d) v (o i) := by
  have nin : ∀ a, a ∈ o i → ¬ inO (o.set i []) a := fun a z ⟨j, q⟩ => by
    by_cases h : j = i
    · subst h; rw [Ow.set_at] at q; cases q
    · rw [Ow.set_ne h] at q; exact h (r.dj j i a q z)
  have sub : ∀ a, inO (o.set i []) a → inO o a := fun a z => (inO_set z).elim id fun z => nomatch z
  have subW : ∀ a, W2 (por A (o i)) (o.set i []) a → W2 A o a := fun a z => z.elim (fun z => z.elim .inl fun z => .inr ⟨i, z⟩) fun z => .inr (sub a z)
  refine ⟨⟨by rw [List.length_set]; exact r.len, fun j d' e' => ?_, fun j => ?_, fun j k a z1 z2 => ?_, fun j a z => ?_, fun j a z => ?_, fun a z => z.elim (r.lA a) (r.lv i a), r.bd, fun p hp => (r.xh p hp).to (fun _ _ e _ => e) fun a _ n z => n (subW a z)⟩, Ext.refl.mono fun a z => z.elim (sub a) fun z => ⟨i, z⟩, fun v ev => ?_⟩
  · by_cases h : j = i
    · subst h
      rw [List.getElem?_set_self (get_lt e)] at e'
      cases e'
    · rw [List.getElem?_set_ne (fun z => h z.symm)] at e'
      obtain ⟨v, ev, q⟩ := r.sl j d' e'
      refine ⟨v, ev, ?_⟩
      rw [Ow.set_ne h]
      exact q.less subW
  · by_cases h : j = i
    · subst h; rw [Ow.set_at]; exact List.nodup_nil
    · rw [Ow.set_ne h]; exact r.nd j
  · by_cases h : j = i
    · subst h; rw [Ow.set_at] at z1; cases z1
    · by_cases h' : k = i
      · subst h'; rw [Ow.set_at] at z2; cases z2
      · rw [Ow.set_ne h] at z1; rw [Ow.set_ne h'] at z2; exact r.dj j k a z1 z2
  · by_cases h : j = i
    · subst h; rw [Ow.set_at] at z; cases z
    · rw [Ow.set_ne h] at z
      exact fun q => q.elim (r.dA j a z) fun q => h (r.dj j i a z q)
  · by_cases h : j = i
    · subst h; rw [Ow.set_at] at z; cases z
    · rw [Ow.set_ne h] at z; exact r.lv j a z
  · obtain ⟨u, eu, q⟩ := r.sl i d e
    rw [ev] at eu; cases eu
    exact ⟨r.nd i, fun a z => ⟨r.dA i a z, nin a z⟩, q.less subW⟩
end

/-! ### blocks -/
def S.nop : S := fun g => .nx g
def S.seq (m k : S) : S := fun g => match m g with
  | .nx g' => k g'
  | r => r
section
variable {C : CMap} {Fx : Nat → Bool} {X : Cx}
theorem vs_nil : VSs C Fx X [] S.nop := fun W tk => ⟨tNext, pss_nil, fun B A σ H g o D hB r po => po σ H o r .refl⟩
theorem vs_cons {st : Stmt} {sts : List Stmt} {m k : S} (h : VS C Fx X st m) (hs : VSs C Fx X sts k) : VSs C Fx X (st :: sts) (S.seq m k) := fun W tk => by
  obtain ⟨t, p, q⟩ := h W tk
  obtain ⟨u, p2, q2⟩ := hs W tk
  refine ⟨tSeq t u, pss_cons p p2, fun B A σ H g o D hB r po => q B A σ H g o _ hB r ?_⟩
  unfold S.seq at po
  cases e : m g with
  | nx g' => rw [e] at po; exact fun σ' H' o' r' x' => q2 B A σ' H' g' o' D hB r' (po.later r x')
  | _ => rw [e] at po; exact po
theorem vs_pass {pos : Pos} : VS C Fx X (.Pass pos) S.nop := fun W tk => ⟨tNext, ps_pass, fun B A σ H g o D hB r po => po σ H o r .refl⟩
theorem vs_break {pos : Pos} : VS C Fx X (.Break pos) (fun g => .brk g) := fun W tk => ⟨tBreak, ps_break, fun B A σ H g o D hB r po => po σ H o r .refl⟩
theorem vs_cont {pos : Pos} : VS C Fx X (.Continue pos) (fun g => .cont g) := fun W tk => ⟨tCont, ps_continue, fun B A σ H g o D hB r po => po σ H o r .refl⟩
/-- not a comprehension -/
def noComp : Expr → Bool
  | .ListComp .. => false
  | .SetComp .. => false
  | .DictComp .. => false
  | _ => true
theorem swapsWith_plain {e : Expr} (h : noComp e = true) {t : Option Expr} {n : Nat} {env : Env} : swapsWith e t n env = pure false := by
  cases e <;> first | rfl | cases h
def S.drop (m : M RV) : S := fun g => match m g with
  | .ok _ g' => .nx g'
  | .exc x g' => .exc x g'
  | .stuck => .stuck
theorem post_exc {B : List (Nat × V)} {A : AP} {W : WX} {σ : L2.St} {H : Hp} {o : Ow} {D : Ends} {x : Ex} {g' : G} {Q : VK} (po : PostS C B A W o H D (.exc x g')) : PostE C B A W σ o H Q (.exc x g') := fun cls d H' o' r' x' ex => po cls d σ H' o' r' x' ex
theorem vs_expr {e : Expr} {m : M RV} {pos : Pos} (h : VE C X e m) (hc : noComp e = true) : VS C Fx X (.Expr e pos) (S.drop m) := fun W tk => by
  obtain ⟨t, p, q⟩ := h W tk
  refine ⟨tDrop t, ps_expr p (swapsWith_plain hc), fun B A σ H g o D hB r po => q B A σ H g o _ r ?_⟩
  unfold S.drop at po
  cases e1 : m g with
  | ok rv g' => rw [e1] at po; exact fun v H' o' fr r' x' rr => po σ H' o' r'.unfr (x'.mono fun _ => .inl)
  | exc x g' => rw [e1] at po; exact post_exc po
  | stuck => rw [e1] at po; exact po
/-- a returned value: what stands in a parameter's slot is shared, what stands in another goes out -/
def S.ret (np : Nat) (m : M RV) : S := fun g => match m g with
  | .ok (.pl i) g' => (match g'[i]? with
    | some (some d) => if i < np then .ret (.sh d.fz) (g'.set i (some d.fz)) else .ret (.ow d) (g'.set i none)
    | _ => .stuck)
  | .ok rv g' => .ret rv g'
  | .exc x g' => .exc x g'
  | .stuck => .stuck
theorem vs_ret {e : Expr} {m : M RV} {np : Nat} {pos : Pos} (h : VE C X e m) : VS C Fx X (.Return (some e) pos) (S.ret np m) := fun W tk => by
  obtain ⟨t, p, q⟩ := h W tk
  refine ⟨tRet t, ps_ret p, fun B A σ H g o D hB r po => q B A σ H g o _ r ?_⟩
  unfold S.ret at po
  cases e1 : m g with
  | ok rv g' =>
    rw [e1] at po
    intro v H' o' fr r' x' rr
    cases rv with
    | sh d => exact po v σ H' o' fr r' x' rr
    | ow d => exact po v σ H' o' fr r' x' rr
    | pl i =>
      obtain ⟨rfl, ⟨d, ed⟩, ev⟩ := rr
      dsimp only at po
      rw [ed] at po
      dsimp only at po
      rw [por_nil] at r'
      by_cases hi : i < np
      · rw [if_pos hi] at po
        obtain ⟨r2, x2, q2⟩ := r'.freeze ed
        exact po v σ H' _ [] (by rw [por_nil]; exact r2) ((x'.mono (F2 := inO o') fun _ => .inl).trans (x2.mono fun a z => z.elim id fun z => nomatch z) r.lo) ⟨rfl, q2 v ev⟩
      · rw [if_neg hi] at po
        obtain ⟨r2, x2, q2⟩ := r'.take ed
        exact po v σ H' _ (o' i) r2 ((x'.mono (F2 := inO o') fun _ => .inl).trans x2 r.lo) (q2 v ev)
  | exc x g' => rw [e1] at po; exact post_exc po
  | stuck => rw [e1] at po; exact po
theorem vs_retN {pos : Pos} : VS C Fx X (.Return none pos) (fun g => .ret (.sh .non) g) := fun W tk =>
  ⟨tRetN, ps_retN, fun B A σ H g o D hB r po => po .non σ H o [] (by rw [por_nil]; exact r) (Ext.refl.mono fun a z => z.elim id fun z => nomatch z) ⟨rfl, rfl, rfl⟩⟩
def S.ite (c : M Bool) (a b : S) : S := fun g => match c g with
  | .ok true g' => a g'
  | .ok false g' => b g'
  | .exc x g' => .exc x g'
  | .stuck => .stuck
theorem vs_if {c : Expr} {a b : List Stmt} {m : M Bool} {ka kb : S} {pos : Pos} (hc : VT C X c m) (ha : VSs C Fx X a ka) (hb : VSs C Fx X b kb) : VS C Fx X (.If c a b pos) (S.ite m ka kb) := fun W tk => by
  obtain ⟨t, p, q⟩ := hc W tk
  obtain ⟨u, p2, q2⟩ := ha W tk
  obtain ⟨u3, p3, q3⟩ := hb W tk
  refine ⟨tIfS t u u3, ps_if p p2 p3, fun B A σ H g o D hB r po => q B A σ H g o _ r ?_⟩
  unfold S.ite at po
  cases e : m g with
  | ok c g1 =>
    rw [e] at po
    intro H1 o1 r1 x1
    cases c with
    | true => rw [if_pos rfl]; exact q2 B A σ H1 g1 o1 D hB r1 (PostS.later r x1 po)
    | false => rw [if_neg Bool.false_ne_true]; exact q3 B A σ H1 g1 o1 D hB r1 (PostS.later r x1 po)
  | exc x g1 => rw [e] at po; exact fun cls d H' o' r' x' ex => po cls d σ H' o' r' x' ex
  | stuck => rw [e] at po; exact po
/-! ### x = e -/
/-- kp: the name holds an own value, if one comes -/
def S.put (Fx : Nat → Bool) (kp : Bool) (i : Nat) (rv : RV) : S := fun g => if Fx i = true then .stuck else match rv with
  | .sh d => .nx (g.set i (some d))
  | .ow d => .nx (g.set i (some (if kp = true then d else d.fz)))
  | .pl j => (match g[j]? with
    | some (some d) => .nx ((g.set j (some d.fz)).set i (some d.fz))
    | _ => .stuck)
def S.asg (Fx : Nat → Bool) (kp : Bool) (i : Nat) (m : M RV) : S := fun g => match m g with
  | .ok rv g' => S.put Fx kp i rv g'
  | .exc x g' => .exc x g'
  | .stuck => .stuck
theorem put_ok {B : List (Nat × V)} {A : AP} {W : WX} {σ : L2.St} {H H0 : Hp} {g : G} {o o0 : Ow} {D : Ends} {kp : Bool} {i : Nat} {rv : RV} {v : V} {fr : List Addr} (hB : BF Fx B) (lo : ∀ a, inO o0 a → ∃ x, H0 a = some x)
    (x : Ext (inO o0) (fun a => inO o a ∨ a ∈ fr) H0 H) (r : R C B (por A fr) H σ g o) (rr : RVR C A o H σ g rv v fr)
    (po : PostS C B A W o0 H0 D (S.put Fx kp i rv g)) : D.nx (σ.set i (some v)) H := by
  unfold S.put at po
  cases hi : Fx i with
  | true => rw [hi, if_pos rfl] at po; exact po.elim
  | false =>
    rw [hi, if_neg Bool.false_ne_true] at po
    have x0 : Ext (inO o0) (inO o) H0 H := x.mono fun _ => .inl
    cases rv with
    | sh d =>
      obtain ⟨rfl, h⟩ := rr
      rw [por_nil] at r
      obtain ⟨r2, x2⟩ := r.put hB hi h
      exact po _ H _ r2 (x0.trans x2 lo)
    | ow d =>
      cases kp with
      | true =>
        obtain ⟨r2, x2⟩ := r.keep hB hi rr
        exact po _ H _ r2 (x.trans x2 lo)
      | false =>
        obtain ⟨r1, q1⟩ := RVR.settle r rr
        obtain ⟨r2, x2⟩ := r1.put hB hi q1.2
        exact po _ H _ r2 (x0.trans x2 lo)
    | pl j =>
      obtain ⟨rfl, ⟨d, ed⟩, ev⟩ := rr
      rw [por_nil] at r
      dsimp only at po
      rw [ed] at po
      obtain ⟨r1, x1, q1⟩ := r.freeze ed
      obtain ⟨r2, x2⟩ := r1.put hB hi (q1 v ev)
      exact po _ H _ r2 ((x0.trans x1 lo).trans x2 lo)
theorem vs_set {x : Str} {i : Nat} {e : Expr} {m : M RV} {kp : Bool} {pos pos' : Pos} (hN : X.N.Nodup) (hi : X.N[i]? = some x) (hx : Loc X.env.scope x) (hf : X.fn x = true ∨ X.env.scope.names.lookup x = some .local) (h : VE C X e m) (hc : noComp e = true) :
    VS C Fx X (.Assign [.Name x pos'] e pos) (S.asg Fx kp i m) := fun W tk => by
  obtain ⟨t, p, q⟩ := h W tk
  refine ⟨tAsg t (gName i), ps_set hN hi hx p (swapsWith_plain hc) hf, fun B A σ H g o D hB r po => q B A σ H g o _ r ?_⟩
  unfold S.asg at po
  cases e1 : m g with
  | ok rv g' => rw [e1] at po; exact fun v H' o' fr r' x' rr => put_ok hB r.lo x' r' rr po
  | exc x g' => rw [e1] at po; exact post_exc po
  | stuck => rw [e1] at po; exact po
/-! ### targets -/
inductive Tgt where
  | slot (i : Nat) | tup (ts : List Tgt)
mutual
/-- a shared value into a target: its parts into the parts -/
def Tgt.put (Fx : Nat → Bool) : Tgt → D → G → Option G
  | .slot i, d, g => if Fx i = true then none else some (g.set i (some d))
  | .tup ts, .obj _ .tup xs, g => Tgt.puts Fx ts xs g
  | .tup ts, .obj _ .lst xs, g => Tgt.puts Fx ts xs g
  | .tup _, _, _ => none
def Tgt.puts (Fx : Nat → Bool) : List Tgt → List D → G → Option G
  | [], [], g => some g
  | t :: ts, x :: xs, g => (match Tgt.put Fx t x g with
    | some g' => Tgt.puts Fx ts xs g'
    | none => none)
  | _, _, _ => none
end
mutual
def Tgt.slots : Tgt → List Nat
  | .slot i => [i]
  | .tup ts => Tgt.slotsL ts
def Tgt.slotsL : List Tgt → List Nat
  | [] => []
  | t :: ts => Tgt.slots t ++ Tgt.slotsL ts
end
/-- only the slots l are others -/
def SameBut (l : List Nat) (σ σ' : L2.St) : Prop := ∀ j, j ∉ l → σ'[j]? = σ[j]?
def VG (C : CMap) (Fx : Nat → Bool) (X : Cx) (e : Expr) (t : Tgt) : Prop :=
  ∃ gt : TG, PG X e gt ∧ ∀ B A σ H g o d v g' (Q : L2.St → Hp → Prop), BF Fx B → R C B A H σ g o → Rep C (W2 A o) H d v [] → Tgt.put Fx t d g = some g' → (∀ σ' o', R C B A H σ' g' o' → Ext (inO o) (inO o') H H → SameBut t.slots σ σ' → Q σ' H) → gt v σ H Q
def VGs (C : CMap) (Fx : Nat → Bool) (X : Cx) (es : List Expr) (ts : List Tgt) : Prop :=
  ∃ gt : TGs, PGs X es gt ∧ ∀ B A σ H g o ds vs g' (Q : L2.St → Hp → Prop), BF Fx B → R C B A H σ g o → Reps C (W2 A o) H ds vs [] → Tgt.puts Fx ts ds g = some g' → (∀ σ' o', R C B A H σ' g' o' → Ext (inO o) (inO o') H H → SameBut (Tgt.slotsL ts) σ σ' → Q σ' H) → gt vs σ H Q
theorem vg_name {x : Str} {i : Nat} {pos : Pos} (hN : X.N.Nodup) (hi : X.N[i]? = some x) (hx : Loc X.env.scope x) (hf : X.fn x = true ∨ X.env.scope.names.lookup x = some .local) : VG C Fx X (.Name x pos) (.slot i) := by
  refine ⟨gName i, pg_name hN hi hx hf, fun B A σ H g o d v g' Q hB r h e q => ?_⟩
  unfold Tgt.put at e
  cases hi : Fx i with
  | true => rw [hi, if_pos rfl] at e; cases e
  | false =>
    rw [hi, if_neg Bool.false_ne_true] at e
    cases e
    obtain ⟨r2, x2⟩ := r.put hB hi h
    exact q _ _ r2 x2 fun j hj => by rw [List.getElem?_set_ne]; rintro rfl; exact hj (List.mem_cons_self ..)
theorem vgs_nil : VGs C Fx X [] [] := by
  refine ⟨gNil, pgs_nil, fun B A σ H g o ds vs g' Q hB r h e q => ?_⟩
  cases ds with
  | nil => cases e; exact ⟨h.1, q σ o r .refl fun _ _ => rfl⟩
  | cons _ _ => cases e
theorem assignEach_plain {e : Expr} {es : List Expr} {env : Env} (h : noStar e = true) : assignEach (e :: es) env = (false, assign e env) :: assignEach es env := by
  cases e <;> first | rfl | cases h
theorem vgs_cons {e : Expr} {es : List Expr} {t : Tgt} {ts : List Tgt} (h : VG C Fx X e t) (hs : VGs C Fx X es ts) (hn : noStar e = true) : VGs C Fx X (e :: es) (t :: ts) := by
  obtain ⟨gt, p, q⟩ := h
  obtain ⟨gs, p2, q2⟩ := hs
  refine ⟨gCons gt gs, pgs_cons p p2 (by rw [assignEach_plain hn]; rfl), fun B A σ H g o ds vs g' Q hB r h e k => ?_⟩
  cases ds with
  | nil => cases e
  | cons d ds =>
    obtain ⟨v, us, rfl, h1, h2⟩ := h.nil_cons
    unfold Tgt.puts at e
    cases e1 : Tgt.put Fx t d g with
    | none => rw [e1] at e; cases e
    | some g1 =>
      rw [e1] at e
      refine ⟨v, us, rfl, q B A σ H g o d v g1 _ hB r h1 e1 fun σ1 o1 r1 x1 sb1 => ?_⟩
      refine q2 B A σ1 H g1 o1 ds us g' _ hB r1 (h2.to (fun _ _ e _ => e) fun a ⟨y, ey⟩ n z => ?_) e fun σ2 o2 r2 x2 sb2 => k σ2 o2 r2 (x1.trans x2 r.lo) fun j hj => (sb2 j fun z => hj (List.mem_append_right _ z)).trans (sb1 j fun z => hj (List.mem_append_left _ z))
      rcases z with z | z
      · exact n (.inl z)
      · rcases x1.new a z with w | w
        · exact n (.inr w)
        · rw [ey] at w; cases w
theorem PG.or {X : Cx} {e : Expr} {g g' : TG} (h : PG X e g) (h' : PG X e g') : PG X e fun v σ H Q => g v σ H Q ∨ g' v σ H Q :=
  ⟨fun pins s σ H v u Q I r q => q.elim (h.run pins s σ H v u Q I r) (h'.run pins s σ H v u Q I r)⟩
/-- no part with a star -/
def allPlain : List Expr → Bool
  | [] => true
  | e :: es => noStar e && allPlain es
theorem assignEach_len {env : Env} : ∀ {es : List Expr}, allPlain es = true → (assignEach es env).length = es.length ∧ (assignEach es env).findIdx? (·.1) = none
  | [], _ => ⟨rfl, rfl⟩
  | e :: es, h => by
    obtain ⟨h1, h2⟩ := Bool.and_eq_true_iff.mp h
    obtain ⟨q1, q2⟩ := assignEach_len (env := env) h2
    rw [assignEach_plain h1]
    refine ⟨by rw [List.length_cons, q1]; rfl, ?_⟩
    rw [List.findIdx?_cons, if_neg Bool.false_ne_true, q2]
    rfl
theorem puts_length : ∀ {ts : List Tgt} {ds : List D} {g g' : G}, Tgt.puts Fx ts ds g = some g' → ds.length = ts.length
  | [], [], _, _, _ => rfl
  | t :: ts, d :: ds, g, g', e => by
    unfold Tgt.puts at e
    cases e1 : Tgt.put Fx t d g with
    | none => rw [e1] at e; cases e
    | some g1 => rw [e1] at e; exact congrArg (· + 1) (puts_length e)
  | [], _ :: _, _, _, e => by cases e
  | _ :: _, [], _, _, e => by cases e
theorem vgs_len : ∀ {es : List Expr} {ts : List Tgt}, True → True := fun _ => trivial
theorem vg_tup [CK C X.K] {es : List Expr} {ts : List Tgt} {k : Nat} {pos : Pos} (hc : X.calm = true) (h : VGs C Fx X es ts) (hp : allPlain es = true) (hl : es.length = ts.length) : VG C Fx X (.Tuple es k pos) (.tup ts) := by
  obtain ⟨gs, p, q⟩ := h
  obtain ⟨n1, n2⟩ := assignEach_len (env := X.env) hp
  refine ⟨_, PG.or (pg_tup hc p n1 n2) (pg_unl hc p n1 n2), fun B A σ H g o d v g' Q hB r h e k => ?_⟩
  cases d with
  | obj ob s xs =>
    cases s with
    | tup =>
      obtain ⟨a, vs, f, rfl, hs, hr, sub, _⟩ := h.obj
      have hf : f = [] := List.eq_nil_iff_forall_not_mem.mpr fun a z => nomatch (sub a z)
      subst hf
      exact .inl ⟨a, vs, rfl, Std.sqT hs, by rw [hr.length, puts_length e, hl], q B A σ H g o xs vs g' Q hB r hr e k⟩
    | lst =>
      obtain ⟨a, vs, f, rfl, hs, hr, sub, _⟩ := h.obj
      have hf : f = [] := List.eq_nil_iff_forall_not_mem.mpr fun a z => nomatch (sub a z)
      subst hf
      exact .inr ⟨a, vs, rfl, Std.sqL hs (.inl rfl), by rw [hr.length, puts_length e, hl], q B A σ H g o xs vs g' Q hB r hr e k⟩
    | _ => cases e
  | _ => cases e
/-! a, b = e -/
def S.asgT (Fx : Nat → Bool) (t : Tgt) (m : M RV) : S := fun g => match M.bind m M.store g with
  | .ok d g' => (match Tgt.put Fx t d g' with | some g2 => .nx g2 | none => .stuck)
  | .exc x g' => .exc x g'
  | .stuck => .stuck
end
end VL

set_option Elab.async false
set_option linter.all false
set_option maxRecDepth 100000
set_option maxHeartbeats 1000000
/-! Loops. -/
namespace VL
open PySem PySem.Spec L2

/-! ### while -/
def S.whileN (c : M Bool) (b : S) : Nat → S
  | 0 => fun _ => .stuck
  | n + 1 => fun g => match c g with
    | .ok true g1 => (match b g1 with
      | .nx g2 => S.whileN c b n g2
      | .cont g2 => S.whileN c b n g2
      | .brk g2 => .nx g2
      | r => r)
    | .ok false g1 => .nx g1
    | .exc x g1 => .exc x g1
    | .stuck => .stuck
/-- what is more than any loop takes -/
def wFuel : Nat := 2 ^ 64
section
variable {C : CMap} {Fx : Nat → Bool} {X : Cx}
/-- what is wanted behind a loop's body -/
theorem vs_while {c : Expr} {body : List Stmt} {m : M Bool} {kb : S} {pos : Pos} (hp : PassesOwn (model X.prog X.w) X.A X.env X.xe) (hc : VT C X c m) (hb : VSs C Fx X body kb) : VS C Fx X (.While c body [] pos) (S.whileN m kb wFuel) := fun W tk => by
  obtain ⟨t, p, q⟩ := hc W tk
  obtain ⟨u, p2, q2⟩ := hb W tk
  refine ⟨tWhile t u, ps_while hp p p2, fun B A σ H g o D hB r po => ?_⟩
  refine ⟨fun n σ H => ∃ g o, R C B A H σ g o ∧ PostS C B A W o H D (S.whileN m kb n g), ⟨wFuel, g, o, r, po⟩, ?_⟩
  rintro n σ1 H1 ⟨g1, o1, r1, po1⟩
  cases n with
  | zero => exact po1.elim
  | succ n =>
    refine q B A σ1 H1 g1 o1 _ r1 ?_
    unfold S.whileN at po1
    cases e : m g1 with
    | exc x g2 => rw [e] at po1; exact fun cls d H' o' r' x' ex => po1 cls d σ1 H' o' r' x' ex
    | stuck => rw [e] at po1; exact po1
    | ok b g2 =>
      rw [e] at po1
      intro H2 o2 r2 x2
      cases b with
      | false => rw [if_neg Bool.false_ne_true]; exact po1 σ1 H2 o2 r2 x2
      | true =>
        rw [if_pos rfl]
        refine ⟨fun σ' H' => ∃ g o, R C B A H' σ' g o ∧ PostS C B A W o H' D (S.whileN m kb n g), fun σ' H' h => ⟨n, Nat.lt_succ_self n, h⟩, ?_⟩
        refine q2 B A σ1 H2 g2 o2 _ hB r2 ?_
        dsimp only at po1
        cases e2 : kb g2 with
        | nx g3 => rw [e2] at po1; exact fun σ' H' o' r' x' => ⟨g3, o', r', PostS.later r1 (x2.trans x' r1.lo) po1⟩
        | cont g3 => rw [e2] at po1; exact fun σ' H' o' r' x' => ⟨g3, o', r', PostS.later r1 (x2.trans x' r1.lo) po1⟩
        | brk g3 => rw [e2] at po1; exact fun σ' H' o' r' x' => po1 σ' H' o' r' (x2.trans x' r1.lo)
        | ret rv g3 => rw [e2] at po1; exact fun v σ' H' o' fr r' x' => po1 v σ' H' o' fr r' (x2.trans x' r1.lo)
        | exc x g3 => rw [e2] at po1; exact fun cls d σ' H' o' r' x' => po1 cls d σ' H' o' r' (x2.trans x' r1.lo)
        | stuck => rw [e2] at po1; exact po1
end
theorem bind_ok {α β : Type} {m : M α} {f : α → M β} {g g' : G} {a : α} (e : m g = .ok a g') : M.bind m f g = f a g' := by unfold M.bind; rw [e]
theorem bind_exc {α β : Type} {m : M α} {f : α → M β} {g g' : G} {x : Ex} (e : m g = .exc x g') : M.bind m f g = .exc x g' := by unfold M.bind; rw [e]
theorem bind_stuck {α β : Type} {m : M α} {f : α → M β} {g : G} (e : m g = .stuck) : M.bind m f g = .stuck := by unfold M.bind; rw [e]
/-! ### what is walked -/
/-- from (H0, o0) on J yields the shared values ds -/
def Walks (C : CMap) (A : AP) (J : It) (ds : List D) (H0 : Hp) (o0 : Ow) : Prop :=
  ∀ (B : List (Nat × V)) (A' : AP) (H : Hp) (σ : L2.St) (g : G) (o : Ow), R C B A' H σ g o → (∀ a x, H0 a = some x → ¬ W2 A o0 a → H a = some x) → (∀ a, W2 A' o a → W2 A o0 a ∨ H0 a = none) →
    ∀ i, (ds.length ≤ i → J.stop i H) ∧ ∀ d, ds[i]? = some d → J.go i H ∧ ∀ x H2, J.yld i H x H2 → R C B A' H2 σ g o ∧ Ext (inO o) (inO o) H H2 ∧ Rep C (W2 A' o) H2 d x []
def PostI (C : CMap) (B : List (Nat × V)) (A : AP) (W : WX) (σ : L2.St) (o : Ow) (H : Hp) (Q : It → Hp → Prop) : Out (List D) → Prop
  | .ok ds g' => ∀ J H' o', R C B A H' σ g' o' → Ext (inO o) (inO o') H H' → Walks C A J ds H' o' → Q J H'
  | .exc x g' => ∀ cls d H' o', R C B A H' σ g' o' → Ext (inO o) (inO o') H H' → ExR C (W2 A o') x cls d H' → W cls d σ H'
  | .stuck => False
def VI (C : CMap) (X : Cx) (tg e : Expr) (m : M (List D)) : Prop :=
  ∀ W : WX, Takes X W → ∃ wi : TI, PI X tg e wi ∧ ∀ B A σ H g o Q, R C B A H σ g o → PostI C B A W σ o H Q (m g) → wi σ H Q
section
variable {C : CMap} {Fx : Nat → Bool} {X : Cx}
theorem PI.or {tg e : Expr} {w w' : TI} (h : PI X tg e w) (h' : PI X tg e w') : PI X tg e fun σ H Q => w σ H Q ∨ w' σ H Q :=
  ⟨fun pins s σ H Q I q => q.elim (h.run pins s σ H Q I) (h'.run pins s σ H Q I)⟩
/-- the text's signs, each a text -/
def signs (x : Str) : List D := x.cps.toList.map fun c => .str ⟨#[c]⟩
/-- what a value walked gives -/
def D.walk : D → Option (List D)
  | .obj false .lst xs => some xs
  | .obj false .frz xs => some xs
  | .obj false .tup xs => some xs
  | .obj false .kt xs => some xs
  | .str x => some (signs x)
  | _ => none
def M.iter (m : M RV) : M (List D) := M.bind (M.bind m M.store) fun d => M.of d.walk
theorem walks_seq {A : AP} {H0 : Hp} {o0 : Ow} {xs : List D} {vs : List V} {J : It} {a : Addr} {s : Sh} (hr : Reps C (W2 A o0) H0 xs vs []) (hs : Std C H0 a s vs) (hw : Av C (W2 A o0) a s vs)
    (hJ : ∀ H, Std C H a s vs → (∀ i, vs.length ≤ i → J.stop i H) ∧ ∀ i v, vs[i]? = some v → J.go i H ∧ ∀ x H2, J.yld i H x H2 → H2 = H ∧ x = v) : Walks C A J xs H0 o0 := fun B A' H σ g o r k kw i => by
  have hs' : Std C H a s vs := Std.mvA hs hw fun x e n => k a x e n
  have hr' : Reps C (W2 A' o) H xs vs [] := hr.to (fun b x e q => k b x e (q.elim id fun z => nomatch z)) fun b ⟨y, ey⟩ n z => by
    rcases kw b z with w | w
    · exact n w
    · rw [ey] at w; cases w
  obtain ⟨j1, j2⟩ := hJ H hs'
  refine ⟨fun h => j1 i (by rw [hr.length]; exact h), fun d e => ?_⟩
  obtain ⟨v, f, e1, q, sub⟩ := hr'.at e
  have hf : f = [] := List.eq_nil_iff_forall_not_mem.mpr fun a z => nomatch (sub a z)
  subst hf
  obtain ⟨go, y⟩ := j2 i v e1
  refine ⟨go, fun x H2 hy => ?_⟩
  obtain ⟨rfl, rfl⟩ := y x H2 hy
  exact ⟨r, .refl, q⟩
theorem vi_val [CK C X.K] {tg e : Expr} {m : M RV} (h : VO C X e m) : VI C X tg e (M.iter m) := fun W tk => by
  obtain ⟨t, p, q⟩ := h W tk
  refine ⟨_, PI.or (PI.or (pi_list p) (pi_tup p)) (pi_str p), fun B A σ H g o Q r po => ?_⟩
  unfold M.iter at po
  -- which of the three it is, the outcome tells
  have kind : (∃ d g1, M.bind m M.store g = .ok d g1) ∨ ((∃ x g1, m g = .exc x g1) ∨ m g = .stuck ∨ ∃ rv g1, m g = .ok rv g1 ∧ M.store rv g1 = .stuck) := by
    cases e1 : m g with
    | exc x g1 => exact .inr (.inl ⟨x, g1, rfl⟩)
    | stuck => exact .inr (.inr (.inl rfl))
    | ok rv g1 =>
      cases e2 : M.store rv g1 with
      | exc x g2 => exact absurd e2 store_noexc
      | stuck => exact .inr (.inr (.inr ⟨rv, g1, rfl, e2⟩))
      | ok d g2 => exact .inl ⟨d, g2, by rw [bind_ok e1]; exact e2⟩
  rcases kind with ⟨d, g1, e1⟩ | e1
  · rw [bind_ok e1] at po
    have main2 : ∀ K : VK, (∀ v H1 o1, R C B A H1 σ g1 o1 → Ext (inO o) (inO o1) H H1 → Rep C (W2 A o1) H1 d v [] → K v H1) → t σ H K := fun K k => q B A σ H g o K r (by
      cases e2 : m g with
      | exc x g2 => rw [bind_exc e2] at e1; cases e1
      | stuck => rw [bind_stuck e2] at e1; cases e1
      | ok rv g2 =>
        rw [bind_ok e2] at e1
        intro v H1 o1 r1 x1 rr
        obtain ⟨o2, r2, x2, q2⟩ := store_ok r1 rr e1
        exact k v H1 o2 r2 (x1.trans x2 r.lo) q2)
    cases ew : d.walk with
    | none => rw [ew] at po; exact po.elim
    | some ds =>
      rw [ew] at po
      have po : ∀ J H' o', R C B A H' σ g1 o' → Ext (inO o) (inO o') H H' → Walks C A J ds H' o' → Q J H' := po
      cases d with
      | str x =>
        cases ew
        refine .inr (main2 _ fun v H1 o1 r1 x1 q1 => ⟨x, q1.1, po _ H1 o1 r1 x1 fun B' A' H' σ' g' o' r' k kw i => ⟨fun h => ?_, fun d' e' => ?_⟩⟩)
        · show x.cps.size ≤ i
          simpa [signs] using h
        · have hl : i < x.cps.size := by
            have := get_lt e'
            simpa [signs] using this
          refine ⟨hl, fun y H2 hy => ?_⟩
          obtain ⟨rfl, c, ec, rfl⟩ := hy
          refine ⟨r', .refl, ?_⟩
          have : d' = .str ⟨#[c]⟩ := by
            simp only [signs, List.getElem?_map, Array.getElem?_toList, ec, Option.map_some, Option.some.injEq] at e'
            exact e'.symm
          rw [this]
          exact ⟨rfl, rfl⟩
      | obj ob s xs =>
        have seqJ : ∀ (a : Addr) (vs : List V) (s : Sh), (s = .lst ∨ s = .frz) → ∀ H, Std C H a s vs → (∀ i, vs.length ≤ i → (Itl X.K a).stop i H) ∧ ∀ i v, vs[i]? = some v → (Itl X.K a).go i H ∧ ∀ x H2, (Itl X.K a).yld i H x H2 → H2 = H ∧ x = v := fun a vs s hs H st =>
          ⟨fun i hi => ⟨vs, Std.sqL st hs, hi⟩, fun i v ev => ⟨⟨vs, v, Std.sqL st hs, ev⟩, fun x H2 ⟨e1, e2⟩ => ⟨e1, Option.some.inj ((e2 vs (Std.sqL st hs)).symm.trans ev)⟩⟩⟩
        cases ob with
        | true => cases s <;> cases ew
        | false =>
          cases s with
          | lst =>
            cases ew
            refine .inl (.inl (main2 _ fun v H1 o1 r1 x1 q1 => ?_))
            obtain ⟨a, vs, f, rfl, hs, hr, _, _, z⟩ := q1.obj
            obtain ⟨rfl, hw⟩ := z rfl
            exact ⟨a, rfl, ⟨vs, Std.sqL hs (.inl rfl)⟩, po _ H1 o1 r1 x1 (walks_seq hr hs hw (seqJ a vs .lst (.inl rfl)))⟩
          | frz =>
            cases ew
            refine .inl (.inl (main2 _ fun v H1 o1 r1 x1 q1 => ?_))
            obtain ⟨a, vs, f, rfl, hs, hr, _, _, z⟩ := q1.obj
            obtain ⟨rfl, hw⟩ := z rfl
            exact ⟨a, rfl, ⟨vs, Std.sqL hs (.inr rfl)⟩, po _ H1 o1 r1 x1 (walks_seq hr hs hw (seqJ a vs .frz (.inr rfl)))⟩
          | tup =>
            cases ew
            refine .inl (.inr (main2 _ fun v H1 o1 r1 x1 q1 => ?_))
            obtain ⟨a, vs, f, rfl, hs, hr, _, _, z⟩ := q1.obj
            obtain ⟨rfl, hw⟩ := z rfl
            exact ⟨a, rfl, ⟨vs, Std.sqT hs⟩, po _ H1 o1 r1 x1 (walks_seq hr hs hw fun H st => ⟨fun i hi => ⟨vs, Std.sqT st, hi⟩, fun i v ev => ⟨⟨vs, v, Std.sqT st, ev⟩, fun x H2 ⟨e1, e2⟩ => ⟨e1, Option.some.inj ((e2 vs (Std.sqT st)).symm.trans ev)⟩⟩⟩)⟩
          | kt =>
            cases ew
            refine .inl (.inr (main2 _ fun v H1 o1 r1 x1 q1 => ?_))
            obtain ⟨a, vs, f, rfl, hs, hr, _, _, z⟩ := q1.obj
            obtain ⟨rfl, hw⟩ := z rfl
            exact ⟨a, rfl, ⟨vs, Std.sqK hs⟩, po _ H1 o1 r1 x1 (walks_seq hr hs hw fun H st => ⟨fun i hi => ⟨vs, Std.sqK st, hi⟩, fun i v ev => ⟨⟨vs, v, Std.sqK st, ev⟩, fun x H2 ⟨e1, e2⟩ => ⟨e1, Option.some.inj ((e2 vs (Std.sqK st)).symm.trans ev)⟩⟩⟩)⟩
          | _ => cases ew
      | _ => cases ew
  · refine .inl (.inl (q B A σ H g o _ r ?_))
    rcases e1 with ⟨x, g1, e1⟩ | e1 | ⟨rv, g1, e1, e2⟩
    · rw [bind_exc (bind_exc e1)] at po; rw [e1]; exact po
    · rw [bind_stuck (bind_stuck e1)] at po; exact po.elim
    · rw [bind_stuck (by rw [bind_ok e1]; exact e2)] at po; exact po.elim
/-! range -/
def M.rng1 (m : M RV) : M (List D) := M.bind m fun x => match x with
  | .sh (.int j) => if -(2 ^ 62) ≤ j ∧ j < 2 ^ 62 then M.pure ((List.range j.toNat).map fun (k : Nat) => .int (0 + (k : Int))) else M.stuck
  | _ => M.stuck
def M.rng2 (m k : M RV) : M (List D) := M.bind (M.two m k) fun p => match p with
  | (.sh (.int i), .sh (.int j)) => if -(2 ^ 62) ≤ i ∧ i < 2 ^ 62 ∧ -(2 ^ 62) ≤ j ∧ j < 2 ^ 62 then M.pure ((List.range (j - i).toNat).map fun (k : Nat) => .int (i + (k : Int))) else M.stuck
  | _ => M.stuck
theorem walks_rng {A : AP} {H0 : Hp} {o0 : Ow} {lo : Int} {n : Nat} : Walks C A (Itr lo n) ((List.range n).map fun (k : Nat) => .int (lo + (k : Int))) H0 o0 := fun B A' H σ g o r k kw i => by
  refine ⟨fun h => show n ≤ i by simpa using h, fun d e => ?_⟩
  have hl : i < n := by simpa using get_lt e
  refine ⟨hl, fun x H2 hy => ?_⟩
  obtain ⟨rfl, rfl⟩ := hy
  refine ⟨r, .refl, ?_⟩
  have : d = .int (lo + (i : Int)) := by
    simp [List.getElem?_map, List.getElem?_range hl] at e
    exact e.symm
  rw [this]
  exact ⟨rfl, rfl⟩
theorem vi_rng1 {tg e : Expr} {m : M RV} {p pos : Pos} (hg : Gl X "range") (hm : X.mg "range" = none) (h : VO C X e m) (hn : noStar e = true) : VI C X tg (.Call (.Name "range" p) [e] [] pos) (M.rng1 m) := fun W tk => by
  obtain ⟨t, pe, q⟩ := h W tk
  refine ⟨_, pi_range1 hg hm (pa_cons pe pa_nil (starEach_plain hn)) (starEach_plain hn), fun B A σ H g o Q r po => ?_⟩
  refine q B A σ H g o _ r ?_
  unfold M.rng1 M.bind at po
  cases e1 : m g with
  | exc x g1 => rw [e1] at po; exact po
  | stuck => rw [e1] at po; exact po
  | ok rv g1 =>
    rw [e1] at po
    intro v H1 o1 r1 x1 rr
    cases rv with
    | sh d =>
      cases d with
      | int j =>
        obtain ⟨_, rfl, _⟩ := rr
        dsimp only at po
        by_cases c : -(2 ^ 62) ≤ j ∧ j < 2 ^ 62
        · rw [if_pos c] at po
          exact ⟨j, rfl, c.1, c.2, po _ H1 o1 r1 x1 walks_rng⟩
        · rw [if_neg c] at po; exact po.elim
      | _ => exact po.elim
    | _ => exact po.elim
theorem vi_rng2 {tg a b : Expr} {m k : M RV} {p pos : Pos} (hg : Gl X "range") (hm : X.mg "range" = none) (ha : VO C X a m) (hb : VO C X b k) (hn : noStar a = true) (hn2 : noStar b = true) : VI C X tg (.Call (.Name "range" p) [a, b] [] pos) (M.rng2 m k) := fun W tk => by
  obtain ⟨ta, tb, pa, pb, q⟩ := v_two ha hb W tk
  refine ⟨_, pi_range2 hg hm (pa_cons pa (pa_cons pb pa_nil (starEach_plain hn2)) (starEach_plain hn)) (by rw [starEach_plain hn, starEach_plain hn2]; rfl) (starEach_plain hn2), fun B A σ H g o Q r po => ?_⟩
  refine q B A σ H g o _ r ?_
  unfold M.rng2 M.bind at po
  cases e1 : M.two m k g with
  | exc x g1 => rw [e1] at po; exact po
  | stuck => rw [e1] at po; exact po
  | ok pr g1 =>
    obtain ⟨x, y⟩ := pr
    rw [e1] at po
    intro u v H1 o1 r1 x1 rx ry
    cases x with
    | sh dx =>
      cases dx with
      | int i =>
        cases y with
        | sh dy =>
          cases dy with
          | int j =>
            obtain ⟨_, rfl, _⟩ := rx
            obtain ⟨_, rfl, _⟩ := ry
            dsimp only at po
            by_cases c : -(2 ^ 62) ≤ i ∧ i < 2 ^ 62 ∧ -(2 ^ 62) ≤ j ∧ j < 2 ^ 62
            · rw [if_pos c] at po
              exact ⟨i, j, rfl, c, po _ H1 o1 r1 x1 walks_rng⟩
            · rw [if_neg c] at po; exact po.elim
          | _ => exact po.elim
        | _ => exact po.elim
      | _ => exact po.elim
    | _ => exact po.elim
end
/-! ### for -/
def S.forL (f : D → G → Option G) (b : S) : List D → S
  | [] => fun g => .nx g
  | d :: ds => fun g => match f d g with
    | none => .stuck
    | some g1 => (match b g1 with
      | .nx g2 => S.forL f b ds g2
      | .cont g2 => S.forL f b ds g2
      | .brk g2 => .nx g2
      | r => r)
def S.for_ (f : D → G → Option G) (b : S) (m : M (List D)) : S := fun g => match m g with
  | .ok ds g' => S.forL f b ds g'
  | .exc x g' => .exc x g'
  | .stuck => .stuck
section
variable {C : CMap} {Fx : Nat → Bool} {X : Cx}
theorem folded_plain {e : Expr} (h : noSet e = true) (x : Value) : foldedSetIterable e X.env x = pure x := by
  cases e <;> first | rfl | cases h
theorem vs_for {tg iter : Expr} {body : List Stmt} {m : M (List D)} {t : Tgt} {kb : S} {pos : Pos} (hp : PassesOwn (model X.prog X.w) X.A X.env X.xe) (hc : X.calm = true) (hi : VI C X tg iter m) (ht : VG C Fx X tg t) (hb : VSs C Fx X body kb) (hs : noSet iter = true) :
    VS C Fx X (.For tg iter body [] pos) (S.for_ (Tgt.put Fx t) kb m) := fun W tk => by
  obtain ⟨wi, p, q⟩ := hi W tk
  obtain ⟨gt, pt, qt⟩ := ht
  obtain ⟨u, p2, q2⟩ := hb W tk
  refine ⟨tFor wi gt u, ps_for hp hc p pt p2 (folded_plain hs), fun B A σ H g o D hB r po => ?_⟩
  refine q B A σ H g o _ r ?_
  unfold S.for_ at po
  cases e : m g with
  | exc x g1 => rw [e] at po; exact fun cls d H' o' r' x' ex => po cls d σ H' o' r' x' ex
  | stuck => rw [e] at po; exact po
  | ok ds g1 =>
    rw [e] at po
    intro J H1 o1 r1 x1 wk
    have po : PostS C B A W o1 H1 D (S.forL (Tgt.put Fx t) kb ds g1) := PostS.later r x1 po
    refine ⟨fun i n σ' H' => n = ds.length - i ∧ ∃ g' o', R C B A H' σ' g' o' ∧ Ext (inO o1) (inO o') H1 H' ∧ PostS C B A W o' H' D (S.forL (Tgt.put Fx t) kb (ds.drop i) g'), ⟨_, rfl, g1, o1, r1, .refl, by rw [List.drop_zero]; exact po⟩, ?_⟩
    rintro i n σ2 H2 ⟨rfl, g2, o2, r2, x2, po2⟩
    obtain ⟨w1, w2⟩ := wk B A H2 σ2 g2 o2 r2 (fun a x ea n => x2.keep a x ea fun z => n (.inr z)) (fun a z => z.elim (fun z => .inl (.inl z)) fun z => (x2.new a z).imp_left .inr) i
    by_cases hl : i < ds.length
    · right
      obtain ⟨go, y⟩ := w2 ds[i] (List.getElem?_eq_getElem hl)
      rw [List.drop_eq_getElem_cons hl] at po2
      unfold S.forL at po2
      cases e1 : Tgt.put Fx t ds[i] g2 with
      | none => rw [e1] at po2; exact po2.elim
      | some g3 =>
        rw [e1] at po2
        dsimp only at po2
        refine ⟨go, fun σ' H' => ∃ g' o', R C B A H' σ' g' o' ∧ Ext (inO o1) (inO o') H1 H' ∧ PostS C B A W o' H' D (S.forL (Tgt.put Fx t) kb (ds.drop (i + 1)) g'), fun σ' H' h => ⟨ds.length - (i + 1), by omega, rfl, h⟩, fun x H3 hy => ?_⟩
        obtain ⟨r3, x3, q3⟩ := y x H3 hy
        refine qt B A σ2 H3 g2 o2 ds[i] x g3 _ hB r3 q3 e1 fun σ4 o4 r4 x4 _ => ?_
        have x34 : Ext (inO o2) (inO o4) H2 H3 := x3.trans x4 r2.lo
        refine q2 B A σ4 H3 g3 o4 _ hB r4 ?_
        cases e2 : kb g3 with
        | nx g5 => rw [e2] at po2; exact fun σ5 H5 o5 r5 x5 => ⟨g5, o5, r5, (x2.trans x34 r1.lo).trans x5 r1.lo, PostS.later r2 (x34.trans x5 r2.lo) po2⟩
        | cont g5 => rw [e2] at po2; exact fun σ5 H5 o5 r5 x5 => ⟨g5, o5, r5, (x2.trans x34 r1.lo).trans x5 r1.lo, PostS.later r2 (x34.trans x5 r2.lo) po2⟩
        | brk g5 => rw [e2] at po2; exact fun σ5 H5 o5 r5 x5 => po2 σ5 H5 o5 r5 (x34.trans x5 r2.lo)
        | ret rv g5 => rw [e2] at po2; exact fun v σ5 H5 o5 fr r5 x5 => po2 v σ5 H5 o5 fr r5 (x34.trans x5 r2.lo)
        | exc z g5 => rw [e2] at po2; exact fun cls d σ5 H5 o5 r5 x5 => po2 cls d σ5 H5 o5 r5 (x34.trans x5 r2.lo)
        | stuck => rw [e2] at po2; exact po2
    · left
      refine ⟨w1 (by omega), ?_⟩
      rw [List.drop_eq_nil_of_le (by omega)] at po2
      exact po2 σ2 H2 o2 r2 .refl
end
end VL

set_option Elab.async false
set_option linter.all false
set_option maxRecDepth 100000
set_option maxHeartbeats 1000000
/-! Calls: a def's promise by values; how it is kept; how it is used. -/
namespace VL
open PySem PySem.Spec L2

/-- a call's outcome: the value, what stands in the parameters' slots at the end (none: not told) -/
inductive CO where
  | ok (d : D) (ps : List (Option D)) | exc (x : Ex) (ps : List (Option D)) | stuck
def D.rv (d : D) : RV := if d.own = true then .ow d else .sh d
def PostC (C : CMap) (A : AP) (vs : List V) (os : Ow) (H : Hp) (Q : VK) (E : XK) : CO → Prop
  | .ok d ps => ∀ v H' os' fr, R C [] (por A fr) H' (vs.map some) ps os' → Ext (inO os) (fun a => inO os' a ∨ a ∈ fr) H H' → RVR C A os' H' (vs.map some) ps d.rv v fr → Q v H'
  | .exc x ps => ∀ cls d H' os', R C [] A H' (vs.map some) ps os' → Ext (inO os) (inO os') H H' → ExR C (W2 A os') x cls d H' → E cls d H'
  | .stuck => False
/-- the promise of a def that does cf; n: how many parameters -/
def spV (C : CMap) (n : Nat) (cf : List D → CO) : Sp := fun vs H Q E => vs.length = n ∧ ∃ (A : AP) (ds : List D) (os : Ow), R C [] A H (vs.map some) (ds.map some) os ∧ PostC C A vs os H Q E (cf ds)

/-! ### a def keeps it -/
/-- the parameters' slots at the end: those that stay -/
def outs (Fx : Nat → Bool) (n : Nat) (g : G) : List (Option D) := (List.range n).map fun i => if Fx i = true then (g[i]?).join else none
/-- a parameter that is stored to must not be own -/
def okArgs (Fx : Nat → Bool) : Nat → List D → Bool
  | _, [] => true
  | i, d :: ds => (Fx i || !d.own) && okArgs Fx (i + 1) ds
def runDef (Fx : Nat → Bool) (np nl : Nat) (body : S) : List D → CO := fun ds => if ds.length = np ∧ okArgs Fx 0 ds = true then
    match body (ds.map some ++ List.replicate nl none) with
    | .nx g => .ok .non (outs Fx np g)
    | .ret (.sh d) g => if d.own = true then .stuck else .ok d (outs Fx np g)
    | .ret (.ow d) g => if d.own = true then .ok d (outs Fx np g) else .ok d.fz (outs Fx np g)
    | .exc x g => .exc x (outs Fx np g)
    | _ => .stuck
  else .stuck
section
variable {C : CMap} {Fx : Nat → Bool}
def bound (Fx : Nat → Bool) : Nat → List V → List (Nat × V)
  | _, [] => []
  | i, v :: vs => if Fx i = true then (i, v) :: bound Fx (i + 1) vs else bound Fx (i + 1) vs
theorem bound_mem : ∀ {i : Nat} {vs : List V} {p : Nat × V}, p ∈ bound Fx i vs → Fx p.1 = true ∧ i ≤ p.1 ∧ vs[p.1 - i]? = some p.2
  | _, [], _, h => by cases h
  | i, v :: vs, p, h => by
    unfold bound at h
    have rec' : p ∈ bound Fx (i + 1) vs → Fx p.1 = true ∧ i ≤ p.1 ∧ (v :: vs)[p.1 - i]? = some p.2 := fun h => by
      obtain ⟨h1, h2, h3⟩ := bound_mem h
      refine ⟨h1, by omega, ?_⟩
      rw [show p.1 - i = (p.1 - (i + 1)) + 1 by omega]
      simpa using h3
    by_cases c : Fx i = true
    · rw [if_pos c] at h
      rcases List.mem_cons.mp h with rfl | h
      · exact ⟨c, Nat.le_refl _, by simp⟩
      · exact rec' h
    · rw [if_neg c] at h; exact rec' h
theorem mem_bound : ∀ {i j : Nat} {vs : List V} {v : V}, Fx (i + j) = true → vs[j]? = some v → (i + j, v) ∈ bound Fx i vs
  | i, 0, u :: vs, v, hf, e => by
    simp at e; subst e
    unfold bound
    rw [Nat.add_zero] at hf
    rw [if_pos hf, Nat.add_zero]
    exact List.mem_cons_self ..
  | i, j + 1, u :: vs, v, hf, e => by
    have ih := mem_bound (i := i + 1) (j := j) (vs := vs) (v := v) (by rw [show i + 1 + j = i + (j + 1) by omega]; exact hf) (by simpa using e)
    rw [show i + 1 + j = i + (j + 1) by omega] at ih
    unfold bound
    split
    · exact List.mem_cons_of_mem _ ih
    · exact ih
  | _, _, [], _, _, e => by simp at e
theorem start_at {N : List Str} {vs : List V} {i : Nat} {v : V} (e : vs[i]? = some v) : (L2.start N vs)[i]? = some (some v) := by
  unfold L2.start
  have hl : i < (vs.map some).length := by rw [List.length_map]; exact get_lt e
  rw [List.getElem?_append_left hl, List.getElem?_map, e]
  rfl
theorem R.entry {A : AP} {H : Hp} {N : List Str} {vs : List V} {ds : List D} {os : Ow} {nl : Nat} (r : R C [] A H (vs.map some) (ds.map some) os) (hn : N.length = vs.length + nl) : R C (bound Fx 0 vs) A H (L2.start N vs) (ds.map some ++ List.replicate nl none) os where
  len := by
    have := r.len
    rw [List.length_map, List.length_map] at this
    unfold L2.start
    simp
    omega
  sl i d e := by
    have hl : i < (ds.map some).length := by
      by_cases h : i < (ds.map some).length
      · exact h
      · rw [List.getElem?_append_right (by omega)] at e
        have := List.getElem?_eq_some_iff.mp e
        obtain ⟨_, e⟩ := this
        simp at e
    rw [List.getElem?_append_left hl] at e
    obtain ⟨v, ev, q⟩ := r.sl i d e
    have ev' : vs[i]? = some v := by
      rw [List.getElem?_map] at ev
      cases z : vs[i]? with
      | none => rw [z] at ev; cases ev
      | some w => rw [z] at ev; cases ev; rfl
    exact ⟨v, start_at ev', q⟩
  nd := r.nd
  dj := r.dj
  dA := r.dA
  lv := r.lv
  lA := r.lA
  bd p hp := by
    obtain ⟨_, _, e⟩ := bound_mem hp
    exact start_at (by simpa using e)
  xh := r.xh
theorem bound_BF {vs : List V} : BF Fx (bound Fx 0 vs) := fun p hp => (bound_mem hp).1
theorem outs_len {n : Nat} {g : G} : (outs Fx n g).length = n := by unfold outs; simp
theorem outs_at {n i : Nat} {g : G} {d : D} (e : (outs Fx n g)[i]? = some (some d)) : i < n ∧ Fx i = true ∧ g[i]? = some (some d) := by
  have hl : i < n := by have := get_lt e; rwa [outs_len] at this
  unfold outs at e
  rw [List.getElem?_map, List.getElem?_range hl] at e
  simp only [Option.map_some, Option.some.injEq] at e
  by_cases c : Fx i = true
  · rw [if_pos c] at e
    refine ⟨hl, c, ?_⟩
    cases z : g[i]? with
    | none => rw [z] at e; cases e
    | some w => rw [z] at e; cases w with
      | none => cases e
      | some x => cases e; rfl
  · rw [if_neg c] at e; cases e
def ownsOut (Fx : Nat → Bool) (n : Nat) (o : Ow) : Ow := fun i => if i < n ∧ Fx i = true then o i else []
theorem inO_out {n : Nat} {o : Ow} {a : Addr} (h : inO (ownsOut Fx n o) a) : inO o a := by
  obtain ⟨i, h⟩ := h
  unfold ownsOut at h
  split at h
  · exact ⟨i, h⟩
  · cases h
theorem R.exit {A : AP} {H' : Hp} {σ' : L2.St} {vs : List V} {g' : G} {o' : Ow} (r : R C (bound Fx 0 vs) A H' σ' g' o') : R C [] A H' (vs.map some) (outs Fx vs.length g') (ownsOut Fx vs.length o') where
  len := by rw [outs_len, List.length_map]
  sl i d e := by
    obtain ⟨hl, hf, eg⟩ := outs_at e
    obtain ⟨v, ev, q⟩ := r.sl i d eg
    have hv : vs[i]? = some vs[i] := List.getElem?_eq_getElem hl
    have hb := r.bd (0 + i, vs[i]) (mem_bound (by rw [Nat.zero_add]; exact hf) hv)
    rw [Nat.zero_add] at hb
    rw [ev] at hb
    cases hb
    refine ⟨vs[i], by rw [List.getElem?_map, hv]; rfl, ?_⟩
    rw [show ownsOut Fx vs.length o' i = o' i from if_pos ⟨hl, hf⟩]
    exact q.less fun a z => z.imp_right inO_out
  nd i := by
    unfold ownsOut
    split
    · exact r.nd i
    · exact List.nodup_nil
  dj i j a h1 h2 := by
    unfold ownsOut at h1 h2
    split at h1
    · split at h2
      · exact r.dj i j a h1 h2
      · cases h2
    · cases h1
  dA i a h := by
    unfold ownsOut at h
    split at h
    · exact r.dA i a h
    · cases h
  lv i a h := by
    unfold ownsOut at h
    split at h
    · exact r.lv i a h
    · cases h
  lA := r.lA
  bd := fun p hp => nomatch hp
  xh p hp := (r.xh p hp).to (fun _ _ e _ => e) fun a _ n z => n (z.imp_right inO_out)
/-- from the body to the promise -/
theorem def_keeps {X : Cx} {body : List Stmt} {kb : S} {np nl : Nat} {vs : List V} {H : Hp} {Q : VK} {E : XK} (hb : VSs C Fx X body kb) (tk : Takes X fun cls d _ H' => E cls d H') (hN : X.N.length = np + nl)
    (h : spV C np (runDef Fx np nl kb) vs H Q E) : ∃ t, PSs X body t ∧ t { nx := fun _ H' => Q .non H', rt := Q } (L2.start X.N vs) H := by
  obtain ⟨hl, A, ds, os, r, po⟩ := h
  obtain ⟨t, p, q⟩ := hb _ tk
  refine ⟨t, p, q (bound Fx 0 vs) A (L2.start X.N vs) H (ds.map some ++ List.replicate nl none) os _ bound_BF (r.entry (by omega)) ?_⟩
  have hd : ds.length = np := by have := r.len; simp at this; omega
  unfold runDef at po
  by_cases c : ds.length = np ∧ okArgs Fx 0 ds = true
  · rw [if_pos c] at po
    subst hl
    cases e : kb (ds.map some ++ List.replicate nl none) with
    | nx g' =>
      rw [e] at po
      intro σ' H' o' r' x'
      exact po .non H' (ownsOut Fx vs.length o') [] (by rw [por_nil]; exact r'.exit) (x'.mono fun a z => z.elim inO_out fun z => nomatch z) ⟨rfl, rfl, rfl⟩
    | ret rv g' =>
      rw [e] at po
      intro v σ' H' o' fr r' x' rr
      cases rv with
      | sh d =>
        dsimp only at po
        cases w : d.own with
        | true => rw [w, if_pos rfl] at po; exact po.elim
        | false =>
          rw [w, if_neg Bool.false_ne_true] at po
          obtain ⟨rfl, q⟩ := rr
          refine po v H' (ownsOut Fx vs.length o') [] r'.exit (x'.mono fun a z => z.imp_left inO_out) ?_
          have : d.rv = .sh d := by unfold D.rv; rw [w, if_neg Bool.false_ne_true]
          rw [this]
          exact ⟨rfl, q.less fun a z => z.imp_right inO_out⟩
      | ow d =>
        dsimp only at po
        cases w : d.own with
        | true =>
          rw [w, if_pos rfl] at po
          refine po v H' (ownsOut Fx vs.length o') fr r'.exit (x'.mono fun a z => z.imp_left inO_out) ?_
          have : d.rv = .ow d := by unfold D.rv; rw [w, if_pos rfl]
          rw [this]
          obtain ⟨n1, n2, n3⟩ := rr
          exact ⟨n1, fun a z => ⟨(n2 a z).1, fun y => (n2 a z).2 (inO_out y)⟩, n3.less fun a z => z.imp_right inO_out⟩
        | false =>
          rw [w, if_neg Bool.false_ne_true] at po
          obtain ⟨r2, q2⟩ := RVR.settle r' rr
          refine po v H' (ownsOut Fx vs.length o') [] (by rw [por_nil]; exact r2.exit) (x'.mono fun a z => z.elim (fun z => .inl (inO_out z)) fun z => nomatch z) ?_
          have : d.fz.rv = .sh d.fz := by unfold D.rv; rw [fz_own, if_neg Bool.false_ne_true]
          rw [this]
          exact ⟨rfl, q2.2.less fun a z => z.imp_right inO_out⟩
      | pl i => exact po.elim
    | exc x g' =>
      rw [e] at po
      intro cls d σ' H' o' r' x' ex
      exact po cls d H' (ownsOut Fx vs.length o') r'.exit (x'.mono fun a z => inO_out z) (ex.to (fun _ _ e _ => e) fun a _ n z => n (z.imp_right inO_out))
    | brk g' => rw [e] at po; exact po.elim
    | cont g' => rw [e] at po; exact po.elim
    | stuck => rw [e] at po; exact po.elim
  · rw [if_neg c] at po; exact po.elim
end
end VL

set_option Elab.async false
set_option linter.all false
set_option maxRecDepth 100000
set_option maxHeartbeats 1000000
/-! The caller's side. -/
namespace VL
open PySem PySem.Spec L2

def argOf (g : G) : RV → Option (D × Option Nat)
  | .sh d => some (d, none)
  | .ow _ => none
  | .pl i => (match g[i]? with
    | some (some d) => some (d, if d.own = true then some i else none)
    | _ => none)
def argsOf (g : G) : List RV → Option (List D × List (Option Nat))
  | [] => some ([], [])
  | r :: rs => match argOf g r, argsOf g rs with
    | some (d, i), some (ds, is) => some (d :: ds, i :: is)
    | _, _ => none
/-- the slots of own arguments, as the call leaves them -/
def wb : List (Option Nat) → List (Option D) → G → G
  | some i :: is, p :: ps, g => wb is ps (g.set i p)
  | none :: is, _ :: ps, g => wb is ps g
  | _, _, g => g
/-- no slot twice -/
def once : List (Option Nat) → Bool
  | [] => true
  | some i :: is => !is.contains (some i) && once is
  | none :: is => once is
def M.callD (cf : List D → CO) (rs : List RV) : M RV := fun g => match argsOf g rs with
  | some (ds, is) => if once is = true then (match cf ds with
    | .ok d ps => .ok d.rv (wb is ps g)
    | .exc x ps => .exc x (wb is ps g)
    | .stuck => .stuck) else .stuck
  | none => .stuck
def M.call (cf : List D → CO) (m : M (List RV)) : M RV := M.bind m (M.callD cf)

theorem wb_len : ∀ {is : List (Option Nat)} {ps : List (Option D)} {g : G}, (wb is ps g).length = g.length
  | some i :: is, p :: ps, g => by unfold wb; rw [wb_len, List.length_set]
  | none :: is, p :: ps, g => by unfold wb; exact wb_len
  | [], _, _ => by unfold wb; rfl
  | some _ :: _, [], _ => by unfold wb; rfl
  | none :: _, [], _ => by unfold wb; rfl
theorem wb_other : ∀ {is : List (Option Nat)} {ps : List (Option D)} {g : G} {i : Nat}, some i ∉ is → (wb is ps g)[i]? = g[i]?
  | some k :: is, p :: ps, g, i, h => by
    unfold wb
    rw [wb_other fun z => h (List.mem_cons_of_mem _ z), List.getElem?_set_ne]
    rintro rfl
    exact h (List.mem_cons_self ..)
  | none :: is, p :: ps, g, i, h => by unfold wb; exact wb_other fun z => h (List.mem_cons_of_mem _ z)
  | [], _, _, _, _ => by unfold wb; rfl
  | some _ :: _, [], _, _, _ => by unfold wb; rfl
  | none :: _, [], _, _, _ => by unfold wb; rfl
theorem wb_at : ∀ {is : List (Option Nat)} {ps : List (Option D)} {g : G} {i j : Nat} {p : Option D}, once is = true → is[j]? = some (some i) → ps[j]? = some p → i < g.length → (wb is ps g)[i]? = some p
  | some k :: is, q :: ps, g, i, 0, p, h, e, ep, hl => by
    simp at e ep
    subst e ep
    unfold wb
    unfold once at h
    rw [Bool.and_eq_true] at h
    rw [wb_other (by simpa using h.1), List.getElem?_set_self hl]
  | none :: is, q :: ps, g, i, 0, p, h, e, ep, hl => by simp at e
  | some k :: is, q :: ps, g, i, j + 1, p, h, e, ep, hl => by
    unfold wb
    unfold once at h
    rw [Bool.and_eq_true] at h
    exact wb_at h.2 (by simpa using e) (by simpa using ep) (by rw [List.length_set]; exact hl)
  | none :: is, q :: ps, g, i, j + 1, p, h, e, ep, hl => by
    unfold wb
    exact wb_at h (by simpa using e) (by simpa using ep) hl
  | [], _, _, _, _, _, _, e, _, _ => by simp at e
  | _ :: _, [], _, _, _, _, _, _, ep, _ => by simp at ep
theorem once_inj : ∀ {is : List (Option Nat)} {i j k : Nat}, once is = true → is[j]? = some (some i) → is[k]? = some (some i) → j = k
  | [], _, _, _, _, e, _ => by simp at e
  | x :: is, i, 0, 0, _, _, _ => rfl
  | x :: is, i, 0, k + 1, h, e, e2 => by
    simp at e; subst e
    unfold once at h
    rw [Bool.and_eq_true] at h
    exact absurd (List.mem_of_getElem? (by simpa using e2)) (by simpa using h.1)
  | x :: is, i, j + 1, 0, h, e, e2 => by
    simp at e2; subst e2
    unfold once at h
    rw [Bool.and_eq_true] at h
    exact absurd (List.mem_of_getElem? (by simpa using e)) (by simpa using h.1)
  | x :: is, i, j + 1, k + 1, h, e, e2 => by
    have h' : once is = true := by
      cases x with
      | none => exact h
      | some y => unfold once at h; rw [Bool.and_eq_true] at h; exact h.2
    exact congrArg (· + 1) (once_inj h' (by simpa using e) (by simpa using e2))
section
variable {C : CMap} {B : List (Nat × V)} {A : AP} {H : Hp} {σ : L2.St} {g : G} {o : Ow}
/-- each argument: what it is, how it lies, whose slot it is -/
theorem argsOf_at (r : R C B A H σ g o) : ∀ {rs : List RV} {vs : List V} {ds : List D} {is : List (Option Nat)}, RVRs C A o H σ g rs vs → argsOf g rs = some (ds, is) →
    vs.length = ds.length ∧ is.length = ds.length ∧ ∀ (j : Nat) (d : D), ds[j]? = some d → ∃ v, vs[j]? = some v ∧ ((is[j]? = some none ∧ Rep C (W2 A o) H d v []) ∨ ∃ i, is[j]? = some (some i) ∧ g[i]? = some (some d) ∧ σ[i]? = some (some v) ∧ Rep C (W2 A o) H d v (o i))
  | [], vs, ds, is, h, e => by
    cases e
    obtain rfl : vs = [] := h
    exact ⟨rfl, rfl, fun j d e => by simp at e⟩
  | rv :: rs, vs, ds, is, h, e => by
    obtain ⟨v, us, rfl, h1, h2⟩ := h
    unfold argsOf at e
    cases e1 : argOf g rv with
    | none => rw [e1] at e; cases e
    | some p =>
      obtain ⟨d, i⟩ := p
      cases e2 : argsOf g rs with
      | none => rw [e1, e2] at e; cases e
      | some q =>
        obtain ⟨ds', is'⟩ := q
        rw [e1, e2] at e
        cases e
        obtain ⟨l1, l2, ih⟩ := argsOf_at r h2 e2
        refine ⟨congrArg (· + 1) l1, congrArg (· + 1) l2, fun j d' e' => ?_⟩
        cases j with
        | succ j => simpa using ih j d' (by simpa using e')
        | zero =>
          simp at e'
          subst e'
          refine ⟨v, rfl, ?_⟩
          cases rv with
          | sh x => cases e1; exact .inl ⟨rfl, h1.2⟩
          | ow x => cases e1
          | pl k =>
            obtain ⟨_, ⟨x, ex⟩, ev⟩ := h1
            unfold argOf at e1
            dsimp only at e1
            rw [ex] at e1
            dsimp only at e1
            obtain ⟨u, eu, q⟩ := r.sl k x ex
            rw [ev] at eu
            cases eu
            cases w : x.own with
            | true =>
              rw [w, if_pos rfl] at e1
              cases e1
              exact .inr ⟨k, rfl, ex, ev, q⟩
            | false =>
              rw [w, if_neg Bool.false_ne_true] at e1
              cases e1
              have := q.sh w
              rw [this] at q
              exact .inl ⟨rfl, q⟩
def ownsArg (o : Ow) (is : List (Option Nat)) : Ow := fun j => match is[j]? with
  | some (some i) => o i
  | _ => []
def othersOwn (A : AP) (o : Ow) (is : List (Option Nat)) : AP := fun a => A a ∨ ∃ i, a ∈ o i ∧ some i ∉ is
def ownsBack (o os' : Ow) (is : List (Option Nat)) : Ow := fun i => match is.idxOf? (some i) with
  | some j => os' j
  | none => o i
theorem idx_some {is : List (Option Nat)} {i j : Nat} (e : is.idxOf? (some i) = some j) : is[j]? = some (some i) := by
  have h := List.findIdx?_eq_some_iff_getElem.mp (show is.findIdx? (· == some i) = some j from e)
  obtain ⟨hl, h, _⟩ := h
  rw [List.getElem?_eq_getElem hl]
  simpa using h
theorem idx_none {is : List (Option Nat)} {i : Nat} (e : is.idxOf? (some i) = none) : some i ∉ is := by
  have h := List.findIdx?_eq_none_iff.mp (show is.findIdx? (· == some i) = none from e)
  intro z
  have := h _ z
  simp at this
theorem inO_arg {is : List (Option Nat)} {a : Addr} : inO (ownsArg o is) a ↔ ∃ i, some i ∈ is ∧ a ∈ o i := by
  constructor
  · rintro ⟨j, h⟩
    unfold ownsArg at h
    split at h
    · rename_i i e
      exact ⟨i, List.mem_of_getElem? e, h⟩
    · cases h
  · rintro ⟨i, hi, ha⟩
    obtain ⟨j, hj⟩ := List.getElem?_of_mem hi
    refine ⟨j, ?_⟩
    unfold ownsArg
    rw [hj]
    exact ha
theorem call_in (r : R C B A H σ g o) {rs : List RV} {vs : List V} {ds : List D} {is : List (Option Nat)} (h : RVRs C A o H σ g rs vs) (e : argsOf g rs = some (ds, is)) (on : once is = true) :
    R C [] (othersOwn A o is) H (vs.map some) (ds.map some) (ownsArg o is) := by
  obtain ⟨l1, l2, at_⟩ := argsOf_at r h e
  have sub : ∀ a, W2 (othersOwn A o is) (ownsArg o is) a → W2 A o a := fun a z => by
    rcases z with z | z
    · rcases z with z | ⟨i, z, _⟩
      · exact .inl z
      · exact .inr ⟨i, z⟩
    · obtain ⟨i, _, z⟩ := inO_arg.mp z
      exact .inr ⟨i, z⟩
  refine ⟨by rw [List.length_map, List.length_map, l1], fun j d ed => ?_, fun j => ?_, fun j k a h1 h2 => ?_, fun j a hj => ?_, fun j a hj => ?_, fun a z => ?_, fun p hp => (nomatch hp), fun p hp => (r.xh p hp).to (fun _ _ e _ => e) fun a _ n z => n (sub a z)⟩
  · have ed' : ds[j]? = some d := by
      rw [List.getElem?_map] at ed
      cases z : ds[j]? with
      | none => rw [z] at ed; cases ed
      | some y => rw [z] at ed; cases ed; rfl
    obtain ⟨v, ev, q⟩ := at_ j d ed'
    refine ⟨v, by rw [List.getElem?_map, ev]; rfl, ?_⟩
    rcases q with ⟨ei, q⟩ | ⟨i, ei, _, _, q⟩
    · have : ownsArg o is j = [] := by unfold ownsArg; rw [ei]
      rw [this]
      exact q.less sub
    · have : ownsArg o is j = o i := by unfold ownsArg; rw [ei]
      rw [this]
      exact q.less sub
  · unfold ownsArg
    split
    · exact r.nd _
    · exact List.nodup_nil
  · unfold ownsArg at h1 h2
    split at h1
    · rename_i i ei
      split at h2
      · rename_i i' ei'
        have := r.dj i i' a h1 h2
        subst this
        exact once_inj on ei ei'
      · cases h2
    · cases h1
  · unfold ownsArg at hj
    split at hj
    · rename_i i ei
      rintro (z | ⟨k, z, nk⟩)
      · exact r.dA i a hj z
      · have := r.dj i k a hj z
        subst this
        exact nk (List.mem_of_getElem? ei)
    · cases hj
  · unfold ownsArg at hj
    split at hj
    · exact r.lv _ a hj
    · cases hj
  · rcases z with z | ⟨i, z, _⟩
    · exact r.lA a z
    · exact r.lv i a z
theorem inO_back {os' : Ow} {is : List (Option Nat)} {a : Addr} (h : inO (ownsBack o os' is) a) : inO os' a ∨ ∃ i, a ∈ o i ∧ some i ∉ is := by
  obtain ⟨i, h⟩ := h
  unfold ownsBack at h
  split at h
  · exact .inl ⟨_, h⟩
  · rename_i e
    exact .inr ⟨i, h, idx_none e⟩
theorem call_out (r : R C B A H σ g o) {rs : List RV} {vs : List V} {ds : List D} {is : List (Option Nat)} (h : RVRs C A o H σ g rs vs) (e : argsOf g rs = some (ds, is)) (on : once is = true)
    {H' : Hp} {ps : List (Option D)} {os' : Ow} {fr : List Addr} (r' : R C [] (por (othersOwn A o is) fr) H' (vs.map some) ps os') (x : Ext (inO (ownsArg o is)) (fun a => inO os' a ∨ a ∈ fr) H H') :
    R C B (por A fr) H' σ (wb is ps g) (ownsBack o os' is) ∧ Ext (inO o) (fun a => inO (ownsBack o os' is) a ∨ a ∈ fr) H H' ∧ (∀ a, W2 (por A fr) (ownsBack o os' is) a → W2 (por (othersOwn A o is) fr) os' a) ∧
    (∀ a, inO (ownsBack o os' is) a → W2 (othersOwn A o is) os' a) ∧ (∀ a, A a → othersOwn A o is a) := by
  obtain ⟨l1, l2, at_⟩ := argsOf_at r h e
  have l3 : ps.length = ds.length := by have := r'.len; rw [List.length_map] at this; omega
  have argsub : ∀ a, inO (ownsArg o is) a → inO o a := fun a z => by
    obtain ⟨i, _, z⟩ := inO_arg.mp z
    exact ⟨i, z⟩
  have subW : ∀ a, W2 (por A fr) (ownsBack o os' is) a → W2 (por (othersOwn A o is) fr) os' a := fun a z => by
    rcases z with (z | z) | z
    · exact .inl (.inl (.inl z))
    · exact .inl (.inr z)
    · rcases inO_back z with z | z
      · exact .inr z
      · exact .inl (.inl (.inr z))
  have notArg : ∀ {i : Nat} {a : Addr}, a ∈ o i → some i ∉ is → ¬ inO (ownsArg o is) a := fun {i a} ha hi z => by
    obtain ⟨k, hk, z⟩ := inO_arg.mp z
    have := r.dj i k a ha z
    subst this
    exact hi hk
  -- the slots of arguments
  have slotOf : ∀ {i j : Nat}, is[j]? = some (some i) → ∃ d v, ds[j]? = some d ∧ vs[j]? = some v ∧ g[i]? = some (some d) ∧ σ[i]? = some (some v) := fun {i j} ei => by
    have hj : j < ds.length := by rw [← l2]; exact get_lt ei
    obtain ⟨v, ev, q⟩ := at_ j ds[j] (List.getElem?_eq_getElem hj)
    rcases q with ⟨e1, _⟩ | ⟨k, e1, q1, q2, _⟩
    · rw [ei] at e1; cases e1
    · rw [ei] at e1; cases e1
      exact ⟨_, v, List.getElem?_eq_getElem hj, ev, q1, q2⟩
  have liveN : ∀ a, (inO os' a ∨ a ∈ fr) → (∃ y, H a = some y) → inO (ownsArg o is) a := fun a z ⟨y, ey⟩ => (x.new a z).elim id fun q => by rw [ey] at q; cases q
  refine ⟨⟨by rw [wb_len]; exact r.len, fun i d ed => ?_, fun i => ?_, fun i k a h1 h2 => ?_, fun i a hi => ?_, fun i a hi => ?_, fun a z => ?_, r.bd, fun p hp => (r'.xh p hp).to (fun _ _ e _ => e) fun a _ n z => n (subW a z)⟩, ⟨fun a y ey n => x.keep a y ey fun z => n (argsub a z), fun a z => ?_⟩, subW, fun a z => ?_, fun a z => .inl z⟩
  · cases q : is.idxOf? (some i) with
    | some j =>
      have ei := idx_some q
      obtain ⟨d0, v, e1, e2, e3, e4⟩ := slotOf ei
      have hj : j < ps.length := by rw [l3]; exact get_lt e1
      rw [wb_at on ei (List.getElem?_eq_getElem hj) (get_lt e3)] at ed
      have ed' : ps[j]? = some (some d) := by rw [List.getElem?_eq_getElem hj]; exact ed
      obtain ⟨v', ev', q'⟩ := r'.sl j d ed'
      rw [List.getElem?_map, e2] at ev'
      cases ev'
      refine ⟨v, e4, ?_⟩
      have : ownsBack o os' is i = os' j := by unfold ownsBack; rw [q]
      rw [this]
      exact q'.less subW
    | none =>
      have hi := idx_none q
      rw [wb_other hi] at ed
      obtain ⟨v, ev, q'⟩ := r.sl i d ed
      refine ⟨v, ev, ?_⟩
      have : ownsBack o os' is i = o i := by unfold ownsBack; rw [q]
      rw [this]
      refine q'.to (fun a y ey z => x.keep a y ey fun w => ?_) fun a ly n z => ?_
      · rcases z with z | z
        · exact z (.inr (argsub a w))
        · exact notArg z hi w
      · rcases z with (z | z) | z
        · exact n (.inl z)
        · exact n (.inr (argsub a (liveN a (.inr z) ly)))
        · rcases inO_back z with z | ⟨k, z, _⟩
          · exact n (.inr (argsub a (liveN a (.inl z) ly)))
          · exact n (.inr ⟨k, z⟩)
  · unfold ownsBack
    split
    · exact r'.nd _
    · exact r.nd i
  · unfold ownsBack at h1 h2
    split at h1
    · rename_i j ej
      split at h2
      · rename_i j' ej'
        have := r'.dj j j' a h1 h2
        subst this
        have := (idx_some ej).symm.trans (idx_some ej')
        cases this
        rfl
      · rename_i ej'
        exact absurd (.inl (.inr ⟨k, h2, idx_none ej'⟩)) (r'.dA j a h1)
    · rename_i ej
      split at h2
      · rename_i j' ej'
        exact absurd (.inl (.inr ⟨i, h1, idx_none ej⟩)) (r'.dA j' a h2)
      · exact r.dj i k a h1 h2
  · unfold ownsBack at hi
    split at hi
    · rename_i j ej
      exact fun z => r'.dA j a hi (z.elim (fun z => .inl (.inl z)) .inr)
    · rename_i ej
      rintro (z | z)
      · exact r.dA i a hi z
      · have := liveN a (.inr z) (r.lv i a hi)
        exact notArg hi (idx_none ej) this
  · unfold ownsBack at hi
    split at hi
    · exact r'.lv _ a hi
    · rename_i ej
      obtain ⟨y, ey⟩ := r.lv i a hi
      exact ⟨y, x.keep a y ey (notArg hi (idx_none ej))⟩
  · exact r'.lA a (z.elim (fun z => .inl (.inl z)) .inr)
  · rcases z with z | z
    · rcases inO_back z with z | ⟨i, z, _⟩
      · exact (x.new a (.inl z)).imp_left (argsub a)
      · exact .inl ⟨i, z⟩
    · exact (x.new a (.inr z)).imp_left (argsub a)
  · rcases inO_back z with z | z
    · exact .inr z
    · exact .inl (.inr z)
end
/-! ### f(..) -/
section
variable {C : CMap} {X : Cx}
/-- what the called def is asked, from what the call is asked -/
theorem post_call {B : List (Nat × V)} {A : AP} {W : WX} {σ : L2.St} {H : Hp} {g : G} {o : Ow} {Q : VK} {cf : List D → CO} {rs : List RV} {vs : List V} {n : Nat} (hn : ∀ ds, ds.length ≠ n → cf ds = .stuck)
    (r : R C B A H σ g o) (h : RVRs C A o H σ g rs vs) (po : PostE C B A W σ o H Q (M.callD cf rs g)) : spV C n cf vs H Q (WE W σ) := by
  unfold M.callD at po
  cases e : argsOf g rs with
  | none => rw [e] at po; exact po.elim
  | some p =>
    obtain ⟨ds, is⟩ := p
    rw [e] at po
    dsimp only at po
    cases on : once is with
    | false => rw [on, if_neg Bool.false_ne_true] at po; exact po.elim
    | true =>
      rw [on, if_pos rfl] at po
      obtain ⟨l1, _, _⟩ := argsOf_at r h e
      have hl : ds.length = n := Classical.byContradiction fun c => by
        rw [hn ds c] at po
        exact po
      refine ⟨by omega, othersOwn A o is, ds, ownsArg o is, call_in r h e on, ?_⟩
      cases ec : cf ds with
      | stuck => rw [ec] at po; exact po
      | ok d ps =>
        rw [ec] at po
        intro v H' os' fr r' x' rr
        obtain ⟨r2, x2, subW, subO, subA⟩ := call_out r h e on r' x'
        refine po v H' _ fr r2 x2 ?_
        unfold D.rv at rr ⊢
        cases w : d.own with
        | true =>
          rw [w, if_pos rfl] at rr
          rw [if_pos rfl]
          obtain ⟨n1, n2, n3⟩ := rr
          refine ⟨n1, fun a z => ⟨fun y => (n2 a z).1 (subA a y), fun y => ?_⟩, n3.less subW⟩
          rcases subO a y with y | y
          · exact (n2 a z).1 y
          · exact (n2 a z).2 y
        | false =>
          rw [w, if_neg Bool.false_ne_true] at rr
          rw [if_neg Bool.false_ne_true]
          obtain ⟨rfl, n3⟩ := rr
          exact ⟨rfl, n3.less fun a z => z.elim (fun z => .inl (subA a z)) fun z => subO a z⟩
      | exc z ps =>
        rw [ec] at po
        intro cls dd H' os' r' x' ex
        have r'' : R C [] (por (othersOwn A o is) []) H' (vs.map some) ps os' := by rw [por_nil]; exact r'
        obtain ⟨r2, x2, subW, subO, subA⟩ := call_out r h e on r'' (x'.mono fun a z => z.elim id fun z => nomatch z)
        rw [por_nil] at r2
        exact po cls dd H' _ r2 (x2.mono fun _ => .inl) (ex.to (fun _ _ e _ => e) fun a _ n z => n (z.elim (fun z => .inl (subA a z)) fun z => subO a z))
theorem post_args {B : List (Nat × V)} {A : AP} {W : WX} {σ : L2.St} {H : Hp} {g : G} {o : Ow} {Q : VK} {m : M (List RV)} {f : List RV → M RV} {K : List V → Hp → Prop} (r : R C B A H σ g o) (po : PostE C B A W σ o H Q (M.bind m f g))
    (h : ∀ vs H1 g1 o1 rs, R C B A H1 σ g1 o1 → RVRs C A o1 H1 σ g1 rs vs → PostE C B A W σ o1 H1 Q (f rs g1) → K vs H1) : PostA C B A W σ o H K (m g) := by
  cases e1 : m g with
  | exc x g1 => rw [bind_exc e1] at po; exact po
  | stuck => rw [bind_stuck e1] at po; exact po
  | ok rs g1 =>
    rw [bind_ok e1] at po
    exact fun vs H1 o1 r1 x1 rr => h vs H1 g1 o1 rs r1 rr (PostE.later r x1 po)
variable {k : Nat} {f : Addr} {fd : FuncData} {ps : List Str} {cf : List D → CO} {x : Str} {p pos : Pos} {e : Expr} {es : List Expr} {m : M (List RV)}
theorem backTo_plain {pos : Pos} {env : Env} : ∀ {es : List Expr}, allPlain es = true → (backTo pos (starEach es env)).any (·.1) = false
  | [], _ => rfl
  | e :: es, h => by
    obtain ⟨h1, h2⟩ := Bool.and_eq_true_iff.mp h
    rw [starEach_plain h1]
    show (false || (backTo pos (starEach es env)).any (·.1)) = false
    rw [backTo_plain h2]
    rfl
/-- f(e, ..) of a def -/
theorem v_call {n : Nat} (F : FnOk X.prog X.w X.K X.mg X.base (L2.CX X.prog X.w) k f fd ps (spV C n cf)) (hn : ∀ ds, ds.length ≠ n → cf ds = .stuck) (hr : Room k X.A) (hg : Gl X x) (hm : X.mg x = some (.ref f)) (hk : PySem.W.keepIn X.K (.ref f) = true) (hb : Binds X.K fd ps [])
    (ha : VA C X (e :: es) m) (hdb : (x == ("__debug__" : Str)) = false) (hp : allPlain (e :: es) = true) : VE C X (.Call (.Name x p) (e :: es) [] pos) (M.call cf m) := fun W tk => by
  obtain ⟨t, pa, q⟩ := ha W tk
  obtain ⟨h1, h2⟩ := Bool.and_eq_true_iff.mp hp
  refine ⟨_, pe_callSD (dvs := []) F hr hg hm hk hb .nil (fun σ => passAt tk σ) pa hdb (starEach_plain h1) (backTo_plain h2), fun B A σ H g o Q r po => q B A σ H g o _ r (post_args r po fun vs H1 g1 o1 rs r1 rr po1 => ?_)⟩
  show spV C n cf (vs ++ []) H1 Q (WE W σ)
  rw [List.append_nil]
  exact post_call hn r1 rr po1
theorem runDef_len {Fx : Nat → Bool} {np nl : Nat} {kb : S} : ∀ ds, ds.length ≠ np → runDef Fx np nl kb ds = .stuck := fun ds h => by
  unfold runDef
  rw [if_neg fun z => h z.1]
end
end VL

set_option Elab.async false
set_option linter.all false
set_option maxRecDepth 100000
set_option maxHeartbeats 1000000
/-! Built-in functions and types called; methods that change an own list; stores by subscript. -/
namespace VL
open PySem PySem.Spec L2

section
variable (C : CMap) (W : AP) (H : Hp)
/-- each one lies, somehow -/
def RepL : List D → List V → Prop
  | [], vs => vs = []
  | d :: ds, vs => ∃ v r f, vs = v :: r ∧ Rep C W H d v f ∧ RepL ds r
end
def viewsOf (g : G) : List RV → Option (List D)
  | [] => some []
  | r :: rs => match r.at g, viewsOf g rs with
    | some d, some ds => some (d :: ds)
    | _, _ => none
def M.viewD (vf : List D → Option RV) (rs : List RV) : M RV := fun g => match viewsOf g rs with
  | some ds => (match vf ds with | some rv => .ok rv g | none => .stuck)
  | none => .stuck
def M.fn (vf : List D → Option RV) (m : M (List RV)) : M RV := M.bind m (M.viewD vf)
section
variable {C : CMap} {X : Cx} [CK C X.K]
theorem views_ok {B : List (Nat × V)} {A : AP} {σ : L2.St} {H : Hp} {g : G} {o : Ow} (r : R C B A H σ g o) : ∀ {rs : List RV} {vs : List V} {ds : List D}, RVRs C A o H σ g rs vs → viewsOf g rs = some ds → RepL C (W2 A o) H ds vs
  | [], vs, ds, h, e => by cases e; exact h
  | rv :: rs, vs, ds, h, e => by
    obtain ⟨v, us, rfl, h1, h2⟩ := h
    unfold viewsOf at e
    cases e1 : rv.at g with
    | none => rw [e1] at e; cases e
    | some d =>
      cases e2 : viewsOf g rs with
      | none => rw [e1, e2] at e; cases e
      | some es =>
        rw [e1, e2] at e
        cases e
        obtain ⟨f, p, _⟩ := h1.rep r e1
        exact ⟨v, us, f, rfl, p, views_ok r h2 e2⟩
/-- a built-in called does vf -/
def VF (C : CMap) (X : Cx) (f : Value) (vf : List D → Option RV) : Prop :=
  ∃ r : List V → Hp → VK → Prop, CallR X f r ∧ ∀ B A σ H g o Q ds vs, R C B A H σ g o → RepL C (W2 A o) H ds vs → res C B A σ o H g Q (vf ds) → r vs H Q
theorem post_view {W : WX} {B : List (Nat × V)} {A : AP} {σ : L2.St} {H : Hp} {g : G} {o : Ow} {Q : VK} {vf : List D → Option RV} {rs : List RV} {vs : List V} {r2 : List V → Hp → VK → Prop}
    (h : ∀ B A σ H g o Q ds vs, R C B A H σ g o → RepL C (W2 A o) H ds vs → res C B A σ o H g Q (vf ds) → r2 vs H Q) (r : R C B A H σ g o) (rr : RVRs C A o H σ g rs vs) (po : PostE C B A W σ o H Q (M.viewD vf rs g)) : r2 vs H Q := by
  unfold M.viewD at po
  cases e : viewsOf g rs with
  | none => rw [e] at po; exact po.elim
  | some ds =>
    rw [e] at po
    refine h B A σ H g o Q ds vs r (views_ok r rr e) ?_
    dsimp only at po
    cases e2 : vf ds with
    | none => rw [e2] at po; exact po.elim
    | some rv => rw [e2] at po; exact fun v H' fr r' x' rr' => po v H' o fr r' x' rr'
theorem v_fnB {x : Str} {id : String} {vf : List D → Option RV} {e : Expr} {es : List Expr} {m : M (List RV)} {p pos : Pos} (hf : VF C X (.builtin id) vf) (hg : Gl X x) (hm : X.mg x = none) (hv : bootBuiltins x = some (.builtin id)) (ha : VA C X (e :: es) m)
    (hn : x ≠ "__name__") (hdb : (x == ("__debug__" : Str)) = false) (hp : allPlain (e :: es) = true) : VE C X (.Call (.Name x p) (e :: es) [] pos) (M.fn vf m) := fun W tk => by
  obtain ⟨t, pa, q⟩ := ha W tk
  obtain ⟨r2, c, h⟩ := hf
  obtain ⟨h1, h2⟩ := Bool.and_eq_true_iff.mp hp
  exact ⟨tCB r2 t, pe_callB c hg hm hv pa hn hdb (starEach_plain h1) (backTo_plain h2), fun B A σ H g o Q r po => q B A σ H g o _ r (post_args r po fun vs H1 g1 o1 rs r1 rr po1 => post_view h r1 rr po1)⟩
theorem v_fnT {x : Str} {T : String} {vf : List D → Option RV} {e : Expr} {es : List Expr} {m : M (List RV)} {p pos : Pos} (hf : VF C X (.type T) vf) (hg : Gl X x) (hm : X.mg x = none) (hv : bootBuiltins x = some (.type T)) (ha : VA C X (e :: es) m)
    (hn : x ≠ "__name__") (hdb : (x == ("__debug__" : Str)) = false) (hp : allPlain (e :: es) = true) : VE C X (.Call (.Name x p) (e :: es) [] pos) (M.fn vf m) := fun W tk => by
  obtain ⟨t, pa, q⟩ := ha W tk
  obtain ⟨r2, c, h⟩ := hf
  obtain ⟨h1, h2⟩ := Bool.and_eq_true_iff.mp hp
  exact ⟨tCB r2 t, pe_callTy c hg hm hv pa hn hdb (starEach_plain h1) (backTo_plain h2), fun B A σ H g o Q r po => q B A σ H g o _ r (post_args r po fun vs H1 g1 o1 rs r1 rr po1 => post_view h r1 rr po1)⟩
/-! the functions -/
theorem RepL.one {W : AP} {H : Hp} {d : D} {vs : List V} (h : RepL C W H [d] vs) : ∃ v f, vs = [v] ∧ Rep C W H d v f := by
  obtain ⟨v, r, f, rfl, q, rfl⟩ := h
  exact ⟨v, f, rfl, q⟩
theorem RepL.two {W : AP} {H : Hp} {d e : D} {vs : List V} (h : RepL C W H [d, e] vs) : ∃ v u f k, vs = [v, u] ∧ Rep C W H d v f ∧ Rep C W H e u k := by
  obtain ⟨v, r, f, rfl, q, h⟩ := h
  obtain ⟨u, k, rfl, q2⟩ := RepL.one h
  exact ⟨v, u, f, k, rfl, q, q2⟩
def vLen : List D → Option RV
  | [.str s] => if s.length ≤ sizeLine then some (.sh (.int s.length)) else none
  | [.obj _ .lst xs] => some (.sh (.int xs.length))
  | [.obj _ .frz xs] => some (.sh (.int xs.length))
  | [.obj _ .tup xs] => some (.sh (.int xs.length))
  | [.obj _ .kt xs] => some (.sh (.int xs.length))
  | [.obj _ (.dk _) xs] => some (.sh (.int xs.length))
  | _ => none
theorem vf_len : VF C X (.builtin "len") vLen := by
  refine ⟨_, (call_len_seq.or call_len_str).or call_lenD, fun B A σ H g o Q ds vs r h po => ?_⟩
  unfold vLen at po
  split at po
  · split at po
    · rename_i c
      obtain ⟨v, f, rfl, q⟩ := h.one
      obtain ⟨rfl, _⟩ := q
      exact .inl (.inr ⟨_, rfl, c, res_sh r po ⟨rfl, rfl⟩⟩)
    · exact po.elim
  · obtain ⟨v, f, rfl, q⟩ := h.one
    obtain ⟨a, us, f', rfl, hs, hr, _⟩ := q.obj
    exact .inl (.inl ⟨a, us, rfl, .inl (Std.sqL hs (.inl rfl)), res_sh r po ⟨by rw [hr.length], rfl⟩⟩)
  · obtain ⟨v, f, rfl, q⟩ := h.one
    obtain ⟨a, us, f', rfl, hs, hr, _⟩ := q.obj
    exact .inl (.inl ⟨a, us, rfl, .inl (Std.sqL hs (.inr rfl)), res_sh r po ⟨by rw [hr.length], rfl⟩⟩)
  · obtain ⟨v, f, rfl, q⟩ := h.one
    obtain ⟨a, us, f', rfl, hs, hr, _⟩ := q.obj
    exact .inl (.inl ⟨a, us, rfl, .inr (Std.sqT hs), res_sh r po ⟨by rw [hr.length], rfl⟩⟩)
  · obtain ⟨v, f, rfl, q⟩ := h.one
    obtain ⟨a, us, f', rfl, hs, hr, _⟩ := q.obj
    exact .inl (.inl ⟨a, us, rfl, .inr (Std.sqK hs), res_sh r po ⟨by rw [hr.length], rfl⟩⟩)
  · obtain ⟨v, f, rfl, q⟩ := h.one
    obtain ⟨a, us, f', rfl, hs, hr, _⟩ := q.obj
    refine .inr ⟨a, _, rfl, hs.2, res_sh r po ⟨?_, rfl⟩⟩
    rw [List.length_zip, hs.1, Nat.min_self, hr.length]
  · exact po.elim
/-- list(x): of what is read; the keys of a dict of texts or ints -/
def kD : Key → D
  | .inl i => .int i
  | .inr s => .str s
def vList : List D → Option RV
  | [.obj o .lst xs] => if pt o xs = true then some (.ow (.obj true .lst xs)) else none
  | [.obj o .frz xs] => if pt o xs = true then some (.ow (.obj true .lst xs)) else none
  | [.obj _ .tup xs] => some (.ow (.obj true .lst xs))
  | [.obj _ (.dk ks) xs] => some (.ow (.obj true .lst (ks.map kD)))
  | _ => none
theorem tup_parts {W : AP} {H : Hp} {ob : Bool} {xs : List D} {v : V} {f : List Addr} (h : Rep C W H (.obj ob .tup xs) v f) : ∃ a vs, v = .ref a ∧ Std C H a .tup vs ∧ Reps C W H xs vs [] ∧ Av C W a .tup vs ∧ ob = false := by
  obtain ⟨a, vs, f', rfl, hs, hr, _, z1, z2⟩ := h.obj
  cases ob with
  | true => exact nomatch (z1 rfl).1
  | false =>
    obtain ⟨rfl, hw⟩ := z2 rfl
    exact ⟨a, vs, rfl, hs, hr, hw, rfl⟩
theorem reps_keys {W : AP} {H : Hp} : ∀ ks : List Key, Reps C W H (ks.map kD) (ks.map kV) []
  | [] => ⟨rfl, rfl⟩
  | .inl i :: ks => .sh_cons ⟨rfl, rfl⟩ (reps_keys ks)
  | .inr s :: ks => .sh_cons ⟨rfl, rfl⟩ (reps_keys ks)
theorem zip_fst {α β : Type} : ∀ {ks : List α} {vs : List β}, ks.length = vs.length → (ks.zip vs).map (·.1) = ks
  | [], _, _ => by simp
  | k :: ks, [], h => by cases h
  | k :: ks, v :: vs, h => by
    have h' : ks.length = vs.length := by simpa using h
    rw [List.zip_cons_cons, List.map_cons, zip_fst h']
theorem vf_list (hc : X.calm = true) : VF C X (.type "list") vList := by
  refine ⟨_, call_list_of.or (call_list_dK hc), fun B A σ H g o Q ds vs r h po => ?_⟩
  unfold vList at po
  split at po
  · split at po
    · rename_i c
      obtain ⟨v, f, rfl, q⟩ := h.one
      obtain ⟨a, us, rfl, hs, hr⟩ := q.parts c
      exact .inl ⟨a, us, rfl, .inl (Std.sqL hs (.inl rfl)), fun p hp => res_new r po hp rfl (show Std C _ p .lst _ from upd_same) hr⟩
    · exact po.elim
  · split at po
    · rename_i c
      obtain ⟨v, f, rfl, q⟩ := h.one
      obtain ⟨a, us, rfl, hs, hr⟩ := q.parts c
      exact .inl ⟨a, us, rfl, .inl (Std.sqL hs (.inr rfl)), fun p hp => res_new r po hp rfl (show Std C _ p .lst _ from upd_same) hr⟩
    · exact po.elim
  · obtain ⟨v, f, rfl, q⟩ := h.one
    obtain ⟨a, us, rfl, hs, hr, _⟩ := tup_parts q
    exact .inl ⟨a, us, rfl, .inr (Std.sqT hs), fun p hp => res_new r po hp rfl (show Std C _ p .lst _ from upd_same) hr⟩
  · rename_i ob ks xs
    obtain ⟨v, f, rfl, q⟩ := h.one
    obtain ⟨a, us, f', rfl, hs, hr, _⟩ := q.obj
    refine .inr ⟨a, _, rfl, hs.2, fun p hp => ?_⟩
    have e : ((ks.zip us).map fun q => kV q.1) = ks.map kV := by
      rw [← zip_fst hs.1, List.map_map]
      congr 1
      rw [zip_fst hs.1]
    rw [e]
    exact res_new r po hp rfl (show Std C _ p .lst _ from upd_same) (reps_keys ks)
  · exact po.elim
def vTuple : List D → Option RV
  | [.obj o .lst xs] => if pt o xs = true then some (.sh (.obj false .tup xs)) else none
  | [.obj o .frz xs] => if pt o xs = true then some (.sh (.obj false .tup xs)) else none
  | [.obj _ .tup xs] => some (.sh (.obj false .tup xs))
  | _ => none
theorem vf_tuple : VF C X (.type "tuple") vTuple := by
  refine ⟨_, call_tuple_of, fun B A σ H g o Q ds vs r h po => ?_⟩
  unfold vTuple at po
  split at po
  · split at po
    · rename_i c
      obtain ⟨v, f, rfl, q⟩ := h.one
      obtain ⟨a, us, rfl, hs, hr⟩ := q.parts c
      exact ⟨a, us, rfl, .inl ⟨Std.sqL hs (.inl rfl), fun p hp => res_tup r po hp hr⟩⟩
    · exact po.elim
  · split at po
    · rename_i c
      obtain ⟨v, f, rfl, q⟩ := h.one
      obtain ⟨a, us, rfl, hs, hr⟩ := q.parts c
      exact ⟨a, us, rfl, .inl ⟨Std.sqL hs (.inr rfl), fun p hp => res_tup r po hp hr⟩⟩
    · exact po.elim
  · obtain ⟨v, f, rfl, q⟩ := h.one
    obtain ⟨a, us, rfl, hs, hr, hw, rfl⟩ := tup_parts q
    exact ⟨a, us, rfl, .inr ⟨Std.sqT hs, res_sh r po ⟨a, us, [], rfl, hr, hs, hw, rfl, rfl⟩⟩⟩
  · exact po.elim
def vInt : List D → Option RV
  | [.int i] => some (.sh (.int i))
  | [.bl b] => some (.sh (.int (if b then 1 else 0)))
  | _ => none
theorem vf_int : VF C X (.type "int") vInt := by
  refine ⟨_, call_int1, fun B A σ H g o Q ds vs r h po => ?_⟩
  unfold vInt at po
  split at po
  · obtain ⟨v, f, rfl, q⟩ := h.one
    obtain ⟨rfl, _⟩ := q
    exact .inl ⟨_, rfl, res_sh r po ⟨rfl, rfl⟩⟩
  · obtain ⟨v, f, rfl, q⟩ := h.one
    obtain ⟨rfl, _⟩ := q
    exact .inr ⟨_, rfl, res_sh r po ⟨rfl, rfl⟩⟩
  · exact po.elim
def vStr : List D → Option RV
  | [.int i] => if i.natAbs.log2 < 1920 then some (.sh (.str (toString i))) else none
  | _ => none
theorem vf_str : VF C X (.type "str") vStr := by
  refine ⟨_, call_str_int, fun B A σ H g o Q ds vs r h po => ?_⟩
  unfold vStr at po
  split at po
  · split at po
    · rename_i c
      obtain ⟨v, f, rfl, q⟩ := h.one
      obtain ⟨rfl, _⟩ := q
      exact ⟨_, rfl, c, res_sh r po ⟨rfl, rfl⟩⟩
    · exact po.elim
  · exact po.elim
def vMax : List D → Option RV
  | [.int i, .int j] => some (.sh (.int (if j > i then j else i)))
  | _ => none
def vMin : List D → Option RV
  | [.int i, .int j] => some (.sh (.int (if j < i then j else i)))
  | _ => none
theorem vf_max (hc : X.calm = true) : VF C X (.builtin "max") vMax := by
  refine ⟨_, call_max2 hc, fun B A σ H g o Q ds vs r h po => ?_⟩
  unfold vMax at po
  split at po
  · obtain ⟨v, u, f, k, rfl, q, q2⟩ := h.two
    obtain ⟨rfl, _⟩ := q
    obtain ⟨rfl, _⟩ := q2
    exact ⟨_, _, rfl, res_sh r po ⟨rfl, rfl⟩⟩
  · exact po.elim
theorem vf_min (hc : X.calm = true) : VF C X (.builtin "min") vMin := by
  refine ⟨_, call_min2 hc, fun B A σ H g o Q ds vs r h po => ?_⟩
  unfold vMin at po
  split at po
  · obtain ⟨v, u, f, k, rfl, q, q2⟩ := h.two
    obtain ⟨rfl, _⟩ := q
    obtain ⟨rfl, _⟩ := q2
    exact ⟨_, _, rfl, res_sh r po ⟨rfl, rfl⟩⟩
  · exact po.elim
/-! isinstance of data against built-in types -/
def D.tyName : D → Option String
  | .non => some "NoneType" | .bl _ => some "bool" | .int _ => some "int" | .str _ => some "str"
  | .obj _ .tup _ => some "tuple" | .obj _ .lst _ => some "list" | .obj _ .frz _ => some "list" | .obj _ .kt _ => some "tuple" | .obj _ (.dk _) _ => some "dict" | .obj _ (.dt _) _ => some "dict"
  | _ => none
theorem ty_of {W : AP} {H : Hp} {K : PySem.W.Frag} [ck : CK C K] {d : D} {v : V} {f : List Addr} {n : String} (h : Rep C W H d v f) (e : d.tyName = some n) : TyX K H v (.type n) := by
  cases d with
  | non => cases e; obtain ⟨rfl, _⟩ := h; exact .base .non
  | bl b => cases e; obtain ⟨rfl, _⟩ := h; exact .base (.bl b)
  | int i => cases e; obtain ⟨rfl, _⟩ := h; exact .base (.int i)
  | str s => cases e; obtain ⟨rfl, _⟩ := h; exact .base (.str s)
  | ty n => cases e
  | cl c => cases e
  | obj o s xs =>
    obtain ⟨a, vs, f', rfl, hs, _⟩ := h.obj
    cases s with
    | tup => cases e; exact .base (.tup hs)
    | lst => cases e; exact .base (.lst hs)
    | frz =>
      cases e
      rcases hs with ⟨o, hs⟩ | hs
      · exact .base (.frz hs)
      · obtain ⟨o, _, _, e1, e2, _⟩ := ck.kl a vs hs
        exact .kList e1 e2
    | kt =>
      cases e
      obtain ⟨o, _, _, e1, e2, _⟩ := ck.kt a vs hs
      exact .kTuple e1 e2
    | dk ks => cases e; exact .base (.dK hs.2)
    | dt ks => cases e; exact .base (.dT hs.2)
    | ins c fs => cases e
/-- is one of the type a one of the type b, for the types that are asked -/
def tyIs (a b : String) : Option Bool := if ["NoneType", "bool", "int", "str", "tuple", "list", "dict"].contains a && ["bool", "int", "str", "tuple", "list", "dict"].contains b then some (a == b || (a == "bool" && b == "int")) else none
theorem tyIs_kit {a b : String} {r : Bool} (h : tyIs a b = some r) : kitB a b = some r := by
  unfold tyIs at h
  split at h
  · rename_i c
    cases h
    simp only [Bool.and_eq_true, List.contains_iff_mem, List.mem_cons, List.not_mem_nil, or_false] at c
    obtain ⟨c1, c2⟩ := c
    rcases c1 with rfl | rfl | rfl | rfl | rfl | rfl | rfl <;> rcases c2 with rfl | rfl | rfl | rfl | rfl | rfl <;> decide +kernel
  · cases h
def anyTy (a : String) : List D → Option Bool
  | [] => some false
  | .ty n :: r => match tyIs a n, anyTy a r with
    | some b, some c => some (b || c)
    | _, _ => none
  | _ :: _ => none
def vIsi : List D → Option RV
  | [x, .ty n] => (match x.tyName with
    | some a => (tyIs a n).map fun b => .sh (.bl b)
    | none => none)
  | [x, .obj _ .tup cs] => (match x.tyName with
    | some a => (anyTy a cs).map fun b => .sh (.bl b)
    | none => none)
  | _ => none
theorem anyTy_kit {W : AP} {H : Hp} {K : PySem.W.Frag} {a : String} : ∀ {cs : List D} {vs : List V} {f : List Addr} {b : Bool}, Reps C W H cs vs f → anyTy a cs = some b → ∃ us, Paired ClsV vs us ∧ PySem.W.kitAny K (.type a) us = some b
  | [], vs, f, b, h, e => by cases e; obtain ⟨rfl, _⟩ := h; exact ⟨[], .nil, rfl⟩
  | d :: ds, vs, f, b, h, e => by
    obtain ⟨v, r, f1, f2, rfl, h1, h2, rfl⟩ := h
    cases d with
    | ty n =>
      obtain ⟨rfl, _⟩ := h1
      unfold anyTy at e
      cases e1 : tyIs a n with
      | none => rw [e1] at e; cases e
      | some b1 =>
        cases e2 : anyTy a ds with
        | none => rw [e1, e2] at e; cases e
        | some b2 =>
          rw [e1, e2] at e
          cases e
          obtain ⟨us, p, q⟩ := anyTy_kit (K := K) h2 e2
          refine ⟨.type n :: us, .cons (.ty n) p, kitAny_cons (kit_ty (tyIs_kit e1)) (fun z => ?_) fun z => ?_⟩
          · subst z; simpa using q
          · subst z; rfl
    | _ => cases e
theorem vf_isi : VF C X (.builtin "isinstance") vIsi := by
  refine ⟨_, call_isi.or call_isiT, fun B A σ H g o Q ds vs r h po => ?_⟩
  unfold vIsi at po
  split at po
  · rename_i x n
    obtain ⟨v, u, f, k, rfl, q, q2⟩ := h.two
    obtain ⟨rfl, _⟩ := q2
    cases e : x.tyName with
    | none => rw [e] at po; exact po.elim
    | some a =>
      rw [e] at po
      dsimp only at po
      cases e2 : tyIs a n with
      | none => rw [e2] at po; exact po.elim
      | some b =>
        rw [e2] at po
        exact .inl ⟨v, .ty n, .type a, .type n, b, rfl, .ty n, ty_of q e, kit_ty (tyIs_kit e2), res_sh r po ⟨rfl, rfl⟩⟩
  · rename_i x ob cs
    obtain ⟨v, u, f, k, rfl, q, q2⟩ := h.two
    obtain ⟨tp, us, rfl, hs, hr, _⟩ := tup_parts q2
    cases e : x.tyName with
    | none => rw [e] at po; exact po.elim
    | some a =>
      rw [e] at po
      dsimp only at po
      cases e2 : anyTy a cs with
      | none => rw [e2] at po; exact po.elim
      | some b =>
        rw [e2] at po
        obtain ⟨ws, p, kk⟩ := anyTy_kit (K := X.K) hr e2
        exact .inr ⟨v, tp, us, .type a, ws, b, rfl, hs, p, ty_of q e, kk, res_sh r po ⟨rfl, rfl⟩⟩
  · exact po.elim
end
end VL

set_option Elab.async false
set_option linter.all false
set_option maxRecDepth 100000
set_option maxHeartbeats 1000000
/-! Slices; methods. -/
namespace VL
open PySem PySem.Spec L2

/-! ### slices -/
section
variable {C : CMap} {X : Cx} [CK C X.K]
/-- an optional bound -/
def VP (C : CMap) (X : Cx) (e : Option Expr) (m : M (Option Int)) : Prop :=
  ∀ W : WX, Takes X W → ∃ t : TO, PO X e t ∧ ∀ B A σ H g o (Q : Option Int → Hp → Prop), R C B A H σ g o → (match m g with
    | .ok i g' => ∀ H' o', R C B A H' σ g' o' → Ext (inO o) (inO o') H H' → Q i H'
    | .exc x g' => ∀ cls d H' o', R C B A H' σ g' o' → Ext (inO o) (inO o') H H' → ExR C (W2 A o') x cls d H' → W cls d σ H'
    | .stuck => False) → t σ H Q
def M.part (m : M RV) : M (Option Int) := M.bind m fun x => match x with
  | .sh (.int i) => M.pure (some i)
  | _ => M.stuck
theorem vp_none : VP C X none (M.pure none) := fun W tk => ⟨tNoPart, po_none, fun B A σ H g o Q r po => po H o r .refl⟩
theorem vp_some {e : Expr} {m : M RV} (h : VO C X e m) : VP C X (some e) (M.part m) := fun W tk => by
  obtain ⟨t, p, q⟩ := h W tk
  refine ⟨tPart t, po_some p, fun B A σ H g o Q r po => q B A σ H g o _ r ?_⟩
  unfold M.part at po
  cases e : m g with
  | exc x g1 => rw [bind_exc e] at po; exact po
  | stuck => rw [bind_stuck e] at po; exact po
  | ok x g1 =>
    rw [bind_ok e] at po
    intro v H1 o1 r1 x1 rr
    cases x with
    | sh d =>
      cases d with
      | int i => obtain ⟨_, rfl, _⟩ := rr; exact ⟨i, rfl, po H1 o1 r1 x1⟩
      | _ => exact po.elim
    | _ => exact po.elim
def cutD (xs : List D) (lo hi : Option Int) : List D := (xs.drop (HT.sIx xs.length 0 lo)).take (HT.sIx xs.length xs.length hi - HT.sIx xs.length 0 lo)
def vSl (lo hi : Option Int) : D → Option RV
  | .str z => if z.length ≤ sizeLine then some (.sh (.str (cutS z lo hi))) else none
  | .obj o .lst xs => if pt o xs = true then some (.ow (.obj true .lst (cutD xs lo hi))) else none
  | .obj _ .tup xs => some (.sh (.obj false .tup (cutD xs lo hi)))
  | _ => none
theorem Reps.drop {W : AP} {H : Hp} : ∀ (n : Nat) {xs : List D} {vs : List V}, Reps C W H xs vs [] → Reps C W H (xs.drop n) (vs.drop n) []
  | 0, _, _, h => h
  | n + 1, [], vs, h => by obtain ⟨rfl, _⟩ := h; exact ⟨rfl, rfl⟩
  | n + 1, x :: xs, vs, h => by
    obtain ⟨v, r, rfl, _, h2⟩ := h.nil_cons
    exact Reps.drop n h2
theorem Reps.take {W : AP} {H : Hp} : ∀ (n : Nat) {xs : List D} {vs : List V}, Reps C W H xs vs [] → Reps C W H (xs.take n) (vs.take n) []
  | 0, _, _, h => by rw [List.take_zero, List.take_zero]; exact ⟨rfl, rfl⟩
  | n + 1, [], vs, h => by obtain ⟨rfl, _⟩ := h; exact ⟨rfl, rfl⟩
  | n + 1, x :: xs, vs, h => by
    obtain ⟨v, r, rfl, h1, h2⟩ := h.nil_cons
    exact .sh_cons h1 (Reps.take n h2)
theorem cutD_reps {W : AP} {H : Hp} {xs : List D} {vs : List V} {lo hi : Option Int} (h : Reps C W H xs vs []) : Reps C W H (cutD xs lo hi) (cutV vs lo hi) [] := by
  unfold cutD cutV
  rw [h.length]
  exact (h.drop _).take _
def M.sl (a : M RV) (l h : M (Option Int)) : M RV := M.bind a fun x => M.bind l fun lo => M.bind h fun hi => fun g => if x.live g = true then (match x.at g with
  | some d => (match vSl lo hi d with | some rv => .ok rv g | none => .stuck)
  | none => .stuck) else .stuck
theorem v_slice {e : Expr} {lo hi : Option Expr} {a : M RV} {l h : M (Option Int)} {p2 pos : Pos} (he : VO C X e a) (hl : VP C X lo l) (hh : VP C X hi h) : VE C X (.Subscript e (.Slice lo hi none p2) pos) (M.sl a l h) := fun W tk => by
  obtain ⟨t, p, q⟩ := he W tk
  obtain ⟨tl, pl, ql⟩ := hl W tk
  obtain ⟨th, ph, qh⟩ := hh W tk
  refine ⟨_, pe_slice ((sl_list.or sl_tupA).or sl_str) p pl ph, fun B A σ H g o Q r po => q B A σ H g o _ r ?_⟩
  unfold M.sl at po
  cases e1 : a g with
  | exc x g1 => rw [bind_exc e1] at po; exact po
  | stuck => rw [bind_stuck e1] at po; exact po
  | ok x g1 =>
    rw [bind_ok e1] at po
    intro v H1 o1 r1 x1 rr
    refine ql B A σ H1 g1 o1 _ r1 ?_
    cases e2 : l g1 with
    | exc z g2 => rw [bind_exc e2] at po; exact fun cls d H2 o2 r2 x2 => po cls d H2 o2 r2 (x1.trans x2 r.lo)
    | stuck => rw [bind_stuck e2] at po; exact po
    | ok lo g2 =>
      rw [bind_ok e2] at po
      intro H2 o2 r2 x2
      refine qh B A σ H2 g2 o2 _ r2 ?_
      cases e3 : h g2 with
      | exc z g3 => rw [bind_exc e3] at po; exact fun cls d H3 o3 r3 x3 => po cls d H3 o3 r3 ((x1.trans x2 r.lo).trans x3 r.lo)
      | stuck => rw [bind_stuck e3] at po; exact po
      | ok hi g3 =>
        rw [bind_ok e3] at po
        intro H3 o3 r3 x3
        cases lv : x.live g3 with
        | false => rw [lv, if_neg Bool.false_ne_true] at po; exact po.elim
        | true =>
          rw [lv, if_pos rfl] at po
          have rr3 := rr.stay2 r1 r3 (x2.trans x3 r1.lo) lv
          cases ex : x.at g3 with
          | none => rw [ex] at po; exact po.elim
          | some d =>
            rw [ex] at po
            obtain ⟨f, pd, _⟩ := rr3.rep r3 ex
            dsimp only at po
            cases ev : vSl lo hi d with
            | none => rw [ev] at po; exact po.elim
            | some rv =>
              rw [ev] at po
              have po : res C B A σ o3 H3 g3 Q (vSl lo hi d) := by
                rw [ev]
                exact fun v H4 fr r4 x4 rr4 => po v H4 o3 fr r4 (((x1.trans x2 r.lo).trans x3 r.lo).trans x4 r.lo) rr4
              cases d with
              | str z =>
                obtain ⟨rfl, _⟩ := pd
                unfold vSl at po
                dsimp only at po
                by_cases c : z.length ≤ sizeLine
                · rw [if_pos c] at po
                  exact .inr ⟨z, rfl, c, res_sh (d := .str _) r3 po ⟨rfl, rfl⟩⟩
                · rw [if_neg c] at po; exact po.elim
              | obj ob s xs =>
                cases s with
                | lst =>
                  unfold vSl at po
                  dsimp only at po
                  by_cases c : pt ob xs = true
                  · rw [if_pos c] at po
                    obtain ⟨b, us, rfl, hs, hr⟩ := pd.parts c
                    exact .inl (.inl ⟨b, us, rfl, Std.sqL hs (.inl rfl), fun p hp => res_new r3 po hp rfl (show Std C _ p .lst _ from upd_same) (cutD_reps hr)⟩)
                  · rw [if_neg c] at po; exact po.elim
                | tup =>
                  obtain ⟨b, us, rfl, hs, hr, hw, rfl⟩ := tup_parts pd
                  refine .inl (.inr ⟨b, us, rfl, Std.sqT hs, fun ⟨z1, z2⟩ => ?_, fun _ p hp => res_tup r3 po hp (cutD_reps hr)⟩)
                  have : cutD xs lo hi = xs := by
                    unfold cutD
                    rw [hr.length] at z1 z2
                    rw [z1, z2, List.drop_zero, Nat.sub_zero, List.take_length]
                  unfold vSl at po
                  dsimp only at po
                  rw [this] at po
                  exact res_sh r3 po ⟨b, us, [], rfl, hr, hs, hw, rfl, rfl⟩
                | _ => exact po.elim
              | _ => exact po.elim
/-! xs[::-1] -/
def vRev : D → Option RV
  | .obj o .lst xs => if pt o xs = true then some (.ow (.obj true .lst xs.reverse)) else none
  | _ => none
def M.rev (a : M RV) : M RV := M.bind a fun x => fun g => match x.at g with
  | some d => (match vRev d with | some rv => .ok rv g | none => .stuck)
  | none => .stuck
theorem Reps.reverse {W : AP} {H : Hp} : ∀ {xs : List D} {vs : List V}, Reps C W H xs vs [] → Reps C W H xs.reverse vs.reverse []
  | [], vs, h => by obtain ⟨rfl, _⟩ := h; exact ⟨rfl, rfl⟩
  | x :: xs, vs, h => by
    obtain ⟨v, r, rfl, h1, h2⟩ := h.nil_cons
    rw [List.reverse_cons, List.reverse_cons]
    exact (Reps.reverse h2).app (g := []) (.sh_cons h1 ⟨rfl, rfl⟩)
theorem v_rev {e : Expr} {a : M RV} {k : Nat} {p1 p2 p3 pos : Pos} (he : VO C X e a) : VE C X (.Subscript e (.Slice none none (some (.UnaryOp .USub (.Constant (.int 1) k p1) p2)) p3) pos) (M.rev a) := fun W tk => by
  obtain ⟨t, p, q⟩ := he W tk
  refine ⟨_, pe_revL p, fun B A σ H g o Q r po => q B A σ H g o _ r ?_⟩
  unfold M.rev at po
  cases e1 : a g with
  | exc x g1 => rw [bind_exc e1] at po; exact po
  | stuck => rw [bind_stuck e1] at po; exact po
  | ok x g1 =>
    rw [bind_ok e1] at po
    intro v H1 o1 r1 x1 rr
    cases ex : x.at g1 with
    | none => rw [ex] at po; exact po.elim
    | some d =>
      rw [ex] at po
      obtain ⟨f, pd, _⟩ := rr.rep r1 ex
      cases d with
      | obj ob s xs =>
        cases s with
        | lst =>
          unfold vRev at po
          dsimp only at po
          by_cases c : pt ob xs = true
          · rw [if_pos c] at po
            obtain ⟨b, us, rfl, hs, hr⟩ := pd.parts c
            have po : res C B A σ o1 H1 g1 Q (some (.ow (.obj true .lst xs.reverse))) := fun v H4 fr r4 x4 rr4 => po v H4 o1 fr r4 (x1.trans x4 r.lo) rr4
            exact ⟨b, us, rfl, Std.sqL hs (.inl rfl), fun p hp => res_new r1 po hp rfl (show Std C _ p .lst _ from upd_same) hr.reverse⟩
          · rw [if_neg c] at po; exact po.elim
        | _ => exact po.elim
      | _ => exact po.elim
/-! ### methods that change nothing -/
/-- no super() -/
def noSuper : Expr → Bool
  | .Call (.Name _ _) [] [] _ => false
  | _ => true
theorem base_plain {o : Expr} (h : noSuper o = true) (name : Str) (env : Env) (w : Sem Value) : attributeBase o name env w = w := by
  unfold attributeBase
  split
  · cases h
  · rfl
/-- a method of a built-in type by values: the receiver, the arguments -/
def VMt (C : CMap) (X : Cx) (T id : String) (mf : D → List D → Option RV) : Prop :=
  ∃ r : V → List V → Hp → VK → Prop, MtR X id r ∧ (∀ d ds, mf d ds ≠ none → d.tyName = some T) ∧
    ∀ B A σ H g o Q d ds x vs f, R C B A H σ g o → Rep C (W2 A o) H d x f → RepL C (W2 A o) H ds vs → res C B A σ o H g Q (mf d ds) → r x vs H Q
/-- the receiver first, then the arguments, then the method -/
def M.meth (mf : D → List D → Option RV) (T : String) (a : M RV) (m : M (List RV)) : M RV := M.bind a fun x => fun g => match x.at g with
  | some d0 => if d0.tyName = some T then M.bind m (fun rs => fun g => if x.live g = true then (match x.at g, viewsOf g rs with
      | some d, some ds => (match mf d ds with | some rv => .ok rv g | none => .stuck)
      | _, _ => .stuck) else .stuck) g else .stuck
  | none => .stuck
theorem ty_tyV {W : AP} {H : Hp} {K : PySem.W.Frag} [CK C K] {d : D} {x : V} {f : List Addr} {T : String} (h : Rep C W H d x f) (e : d.tyName = some T) (hT : T = "str" ∨ T = "int" ∨ T = "list" ∨ T = "dict") : tyV K T x H := by
  cases d with
  | non => cases e; rcases hT with z | z | z | z <;> exact absurd z (by decide)
  | bl b => cases e; rcases hT with z | z | z | z <;> exact absurd z (by decide)
  | int i => cases e; obtain ⟨rfl, _⟩ := h; rfl
  | str s => cases e; obtain ⟨rfl, _⟩ := h; rfl
  | ty n => cases e
  | cl c => cases e
  | obj o s xs =>
    obtain ⟨a, vs, f', rfl, hs, _⟩ := h.obj
    cases s with
    | tup => cases e; rcases hT with z | z | z | z <;> exact absurd z (by decide)
    | kt => cases e; rcases hT with z | z | z | z <;> exact absurd z (by decide)
    | lst => cases e; exact .inl ⟨rfl, vs, Std.sqL hs (.inl rfl)⟩
    | frz => cases e; exact .inl ⟨rfl, vs, Std.sqL hs (.inr rfl)⟩
    | dk ks => cases e; exact .inr (.inr (.inl ⟨rfl, .inl ⟨_, hs.2⟩⟩))
    | dt ks => cases e; exact .inr (.inr (.inl ⟨rfl, .inr ⟨_, hs.2⟩⟩))
    | ins c fs => cases e
theorem few_plain {cpos : Pos} {env : Env} {es : List Expr} (h : allPlain es = true) (hl : es.length < 30) : ((backTo cpos (starEach es env)).all (fun x => !x.1) && (backToKw cpos (keywordEach [] env)).all (fun x => x.1.isSome) && decide (es.length + ([] : List Keyword).length + (if ([] : List Keyword).isEmpty then 0 else 1) < 30)) = true := by
  have h1 : ∀ {es : List Expr}, allPlain es = true → (backTo cpos (starEach es env)).all (fun x => !x.1) = true := by
    intro es
    induction es with
    | nil => intro _; rfl
    | cons e es ih =>
      intro h
      obtain ⟨h1, h2⟩ := Bool.and_eq_true_iff.mp h
      rw [starEach_plain h1]
      show ((!false) && (backTo cpos (starEach es env)).all (fun x => !x.1)) = true
      rw [ih h2]
      rfl
  rw [h1 h]
  simp [backToKw, keywordEach, hl]
theorem post_meth {W : WX} {B : List (Nat × V)} {A : AP} {σ : L2.St} {H : Hp} {g : G} {o : Ow} {Q : VK} {mf : D → List D → Option RV} {T id : String} {a : M RV} {m : M (List RV)} {r2 : V → List V → Hp → VK → Prop} {t : TA}
    (hT : T = "str" ∨ T = "int" ∨ T = "list" ∨ T = "dict")
    (h : ∀ B A σ H g o Q d ds x vs f, R C B A H σ g o → Rep C (W2 A o) H d x f → RepL C (W2 A o) H ds vs → res C B A σ o H g Q (mf d ds) → r2 x vs H Q)
    (ht : ∀ B A σ H g o Q, R C B A H σ g o → PostA C B A W σ o H Q (m g) → t σ H Q)
    (r : R C B A H σ g o) (po : PostE C B A W σ o H Q (M.meth mf T a m g)) : PostO C B A W σ o H (fun x H1 => tyV X.K T x H1 ∧ t σ H1 fun vs H2 => r2 x vs H2 Q) (a g) := by
  unfold M.meth at po
  cases e1 : a g with
  | exc x g1 => rw [bind_exc e1] at po; exact po
  | stuck => rw [bind_stuck e1] at po; exact po
  | ok x g1 =>
    rw [bind_ok e1] at po
    intro v H1 o1 r1 x1 rr
    cases ex : x.at g1 with
    | none => rw [ex] at po; exact po.elim
    | some d0 =>
      rw [ex] at po
      dsimp only at po
      by_cases c : d0.tyName = some T
      · rw [if_pos c] at po
        obtain ⟨f, pd, _⟩ := rr.rep r1 ex
        refine ⟨ty_tyV pd c hT, ht B A σ H1 g1 o1 _ r1 ?_⟩
        cases e2 : m g1 with
        | exc z g2 => rw [bind_exc e2] at po; exact fun cls d H2 o2 r2 x2 => po cls d H2 o2 r2 (x1.trans x2 r.lo)
        | stuck => rw [bind_stuck e2] at po; exact po
        | ok rs g2 =>
          rw [bind_ok e2] at po
          intro vs H2 o2 r2' x2 rr2
          cases lv : x.live g2 with
          | false => rw [lv, if_neg Bool.false_ne_true] at po; exact po.elim
          | true =>
            rw [lv, if_pos rfl] at po
            have rr3 := rr.stay2 r1 r2' x2 lv
            cases ex2 : x.at g2 with
            | none => rw [ex2] at po; exact po.elim
            | some d =>
              cases ev : viewsOf g2 rs with
              | none => rw [ex2, ev] at po; exact po.elim
              | some ds =>
                rw [ex2, ev] at po
                obtain ⟨f2, pd2, _⟩ := rr3.rep r2' ex2
                refine h B A σ H2 g2 o2 Q d ds v vs f2 r2' pd2 (views_ok r2' rr2 ev) ?_
                dsimp only at po
                cases em : mf d ds with
                | none => rw [em] at po; exact po.elim
                | some rv =>
                  rw [em] at po
                  exact fun w H3 fr r3 x3 rr4 => po w H3 o2 fr r3 ((x1.trans x2 r.lo).trans x3 r.lo) rr4
      · rw [if_neg c] at po; exact po.elim
theorem v_meth {o e : Expr} {es : List Expr} {name : Str} {apos cpos : Pos} {T id : String} {mf : D → List D → Option RV} {a : M RV} {m : M (List RV)} (hm : VMt C X T id mf) (hT : T = "str" ∨ T = "int" ∨ T = "list" ∨ T = "dict")
    (pa : PlainAttrs T) (slot : Slot T name id) (hty : typeOf (.builtin id) = pure (.type "method_descriptor")) (ho : VO C X o a) (ha : VA C X (e :: es) m) (hn : noSuper o = true) (hp : allPlain (e :: es) = true) (hl : (e :: es).length < 30) (hline : (apos.endLine == cpos.line) = true) :
    VE C X (.Call (.Attribute o name apos) (e :: es) [] cpos) (M.meth mf T a m) := fun W tk => by
  obtain ⟨t, p, q⟩ := ho W tk
  obtain ⟨ta, pt, qt⟩ := ha W tk
  obtain ⟨r2, c, _, h⟩ := hm
  obtain ⟨h1, h2⟩ := Bool.and_eq_true_iff.mp hp
  exact ⟨_, pe_bm pa slot hty c p pt (base_plain hn _ _ _) (few_plain hp hl) hline (starEach_plain h1) (backTo_plain h2), fun B A σ H g o Q r po => q B A σ H g o _ r (post_meth (id := id) hT h qt r po)⟩
theorem v_meth0 {o : Expr} {name : Str} {apos cpos : Pos} {T id : String} {mf : D → List D → Option RV} {a : M RV} (hm : VMt C X T id mf) (hT : T = "str" ∨ T = "int" ∨ T = "list" ∨ T = "dict")
    (pa : PlainAttrs T) (slot : Slot T name id) (hty : typeOf (.builtin id) = pure (.type "method_descriptor")) (ho : VO C X o a) (hn : noSuper o = true) (hline : (apos.endLine == cpos.line) = true) :
    VE C X (.Call (.Attribute o name apos) [] [] cpos) (M.meth mf T a (M.pure [])) := fun W tk => by
  obtain ⟨t, p, q⟩ := ho W tk
  obtain ⟨r2, c, _, h⟩ := hm
  refine ⟨_, pe_bm0 pa slot hty c p (base_plain hn _ _ _) hline, fun B A σ H g o Q r po => q B A σ H g o _ r ?_⟩
  exact post_meth (id := id) (t := tNil) hT h (fun B A σ H g o Q r (po : PostA C B A W σ o H Q (M.pure [] g)) => po [] H o r .refl rfl) r po
def mUpper : D → List D → Option RV
  | .str a, [] => if a.length ≤ 5592405 then some (.sh (.str (Txt.upper a))) else none
  | _, _ => none
theorem vm_upper : VMt C X "str" "str.upper" mUpper := by
  refine ⟨_, mt_upper, fun d ds h => ?_, fun B A σ H g o Q d ds x vs f r hx hv po => ?_⟩
  · unfold mUpper at h
    split at h
    · rfl
    · exact absurd rfl h
  · unfold mUpper at po
    split at po
    · split at po
      · rename_i c
        obtain ⟨rfl, _⟩ := hx
        exact ⟨_, rfl, hv, c, res_sh r po ⟨rfl, rfl⟩⟩
      · exact po.elim
    · exact po.elim
end
end VL

set_option Elab.async false
set_option linter.all false
set_option maxRecDepth 100000
set_option maxHeartbeats 1000000
/-! What changes an own object: list methods, stores by subscript. -/
namespace VL
open PySem PySem.Spec L2

section
variable {C : CMap} {X : Cx} [CK C X.K]
/-- an own object's content is changed; its own parts become fewer or stay -/
theorem R.mut {B : List (Nat × V)} {A : AP} {σ : L2.St} {H H' : Hp} {g : G} {o : Ow} {i : Nat} {s s' : Sh} {xs xs' : List D} {a : Addr} {vs' : List V} {f f' : List Addr} (r : R C B A H σ g o) (e : g[i]? = some (some (.obj true s xs))) (ev : σ[i]? = some (some (.ref a)))
    (eo : o i = a :: f) (hH : ∀ b, b ≠ a → H' b = H b) (hs : s'.mutb = true) (st : Std C H' a s' vs') (hr : Reps C (W2 A o) H xs' vs' f') (nd : f'.Nodup) (sub : ∀ b ∈ f', b ∈ f) :
    R C B A H' σ (g.set i (some (.obj true s' xs'))) (o.set i (a :: f')) ∧ Ext (inO o) (inO (o.set i (a :: f'))) H H' := by
  have hai : a ∈ o i := by rw [eo]; exact List.mem_cons_self ..
  have hna : a ∉ f := by
    have := r.nd i
    rw [eo] at this
    exact (List.nodup_cons.mp this).1
  have subO : ∀ b, inO (o.set i (a :: f')) b → inO o b := fun b z => (inO_set z).elim id fun z => ⟨i, by rw [eo]; exact (List.mem_cons.mp z).elim (fun e => by rw [e]; exact List.mem_cons_self ..) fun z => List.mem_cons_of_mem _ (sub b z)⟩
  have lvA : ∀ b, b ≠ a → (∃ x, H b = some x) → ∃ x, H' b = some x := fun b hb ⟨x, ex⟩ => ⟨x, by rw [hH b hb]; exact ex⟩
  have lvAny : ∀ b, (∃ x, H b = some x) → ∃ x, H' b = some x := fun b z => by
    by_cases hb : b = a
    · rw [hb]; exact Std.has st hs
    · exact lvA b hb z
  have notA : ¬ A a := r.dA i a hai
  refine ⟨⟨by rw [List.length_set]; exact r.len, fun j d' e' => ?_, fun j => ?_, fun j k b z1 z2 => ?_, fun j b z => ?_, fun j b z => ?_, fun b z => lvAny b (r.lA b z), r.bd, fun p hp => (r.xh p hp).to (fun b x eb n => ?_) fun b _ n z => n (z.imp_right (subO b))⟩, ⟨fun b x eb n => ?_, fun b z => .inl (subO b z)⟩⟩
  · by_cases h : j = i
    · subst h
      rw [List.getElem?_set_self (get_lt e)] at e'
      cases e'
      refine ⟨.ref a, ev, a, vs', f', rfl, ?_, hs, st, by rw [Ow.set_at]⟩
      refine hr.to (fun b x eb q => ?_) fun b _ n z => n (z.imp_right (subO b))
      rw [hH b]
      · exact eb
      · rintro rfl
        rcases q with q | q
        · exact q (.inr ⟨j, hai⟩)
        · exact hna (sub b q)
    · rw [List.getElem?_set_ne (fun z => h z.symm)] at e'
      obtain ⟨v, ev', q⟩ := r.sl j d' e'
      refine ⟨v, ev', ?_⟩
      rw [Ow.set_ne h]
      refine q.to (fun b x eb q' => ?_) fun b _ n z => n (z.imp_right (subO b))
      rw [hH b]
      · exact eb
      · rintro rfl
        rcases q' with q' | q'
        · exact q' (.inr ⟨i, hai⟩)
        · exact h (r.dj j i b q' hai)
  · by_cases h : j = i
    · subst h; rw [Ow.set_at]; exact List.nodup_cons.mpr ⟨fun z => hna (sub a z), nd⟩
    · rw [Ow.set_ne h]; exact r.nd j
  · have up : ∀ j, b ∈ o.set i (a :: f') j → b ∈ o j := fun j z => by
      by_cases h : j = i
      · subst h
        rw [Ow.set_at] at z
        rw [eo]
        exact (List.mem_cons.mp z).elim (fun e => by rw [e]; exact List.mem_cons_self ..) fun z => List.mem_cons_of_mem _ (sub b z)
      · rw [Ow.set_ne h] at z; exact z
    exact r.dj j k b (up j z1) (up k z2)
  · obtain ⟨k, z'⟩ := subO b ⟨j, z⟩
    exact r.dA k b z'
  · obtain ⟨k, z'⟩ := subO b ⟨j, z⟩
    exact lvAny b (r.lv k b z')
  · rw [hH b]
    · exact eb
    · rintro rfl; exact n (.inr ⟨i, hai⟩)
  · rw [hH b]
    · exact eb
    · rintro rfl; exact n ⟨i, hai⟩
/-! ### methods of an own list in a slot -/
/-- what the method does to the items: its value, the items behind it -/
def LMt (C : CMap) (X : Cx) (id : String) (mf : List D → List D → Option (D × List D)) : Prop :=
  ∃ r : V → List V → Hp → VK → Prop, MtR X id r ∧ ∀ (W : AP) (H : Hp) (a : Addr) (xs : List D) (vs : List V) (f : List Addr) (ds : List D) (us : List V) (d : D) (xs' : List D) (Q : VK),
    H a = some (.lst vs) → Reps C W H xs vs f → Reps C W H ds us [] → mf xs ds = some (d, xs') → d.own = false →
    (∀ v vs' f', Rep C W H d v [] → Reps C W H xs' vs' f' → (f.Nodup → f'.Nodup) → (∀ b ∈ f', b ∈ f) → Q v (upd H a (.lst vs'))) → r (.ref a) us H Q
def M.lmt (i : Nat) (mf : List D → List D → Option (D × List D)) (m : M (List RV)) : M RV := M.bind (M.slot i) fun _ => fun g => match g[i]? with
  | some (some (.obj _ .lst _)) => M.bind m (fun rs => M.bind (M.stores rs) fun ds => fun g => match g[i]? with
    | some (some (.obj true .lst xs)) => (match mf xs ds with
      | some (d, xs') => if d.own = true then .stuck else .ok (.sh d) (g.set i (some (.obj true .lst xs')))
      | none => .stuck)
    | _ => .stuck) g
  | _ => .stuck
theorem v_lmt {x : Str} {i : Nat} {e : Expr} {es : List Expr} {name : Str} {npos apos cpos : Pos} {id : String} {mf : List D → List D → Option (D × List D)} {m : M (List RV)} (hm : LMt C X id mf)
    (slot : Slot "list" name id) (hty : typeOf (.builtin id) = pure (.type "method_descriptor")) (hN : X.N[i]? = some x) (hv : Vis X.env.scope x) (hd : (x == ("__debug__" : Str)) = false) (hcd : (x == ("__classdict__" : Str)) = false)
    (ha : VA C X (e :: es) m) (hp : allPlain (e :: es) = true) (hl : (e :: es).length < 30) (hline : (apos.endLine == cpos.line) = true) :
    VE C X (.Call (.Attribute (.Name x npos) name apos) (e :: es) [] cpos) (M.lmt i mf m) := fun W tk => by
  obtain ⟨ta, pt, qt⟩ := ha W tk
  obtain ⟨r2, c, h⟩ := hm
  obtain ⟨h1, h2⟩ := Bool.and_eq_true_iff.mp hp
  refine ⟨_, pe_bm PySem.F.plainAttrs_list slot hty c (pe_var hN hv hd hcd) pt (base_plain rfl _ _ _) (few_plain hp hl) hline (starEach_plain h1) (backTo_plain h2), fun B A σ H g o Q r po => ?_⟩
  exact core h qt r po
where
  core {W : WX} {B : List (Nat × V)} {A : AP} {σ : L2.St} {H : Hp} {g : G} {o : Ow} {Q : VK} {i : Nat} {mf : List D → List D → Option (D × List D)} {m : M (List RV)} {ta : TA} {r2 : V → List V → Hp → VK → Prop}
    (h : ∀ (W : AP) (H : Hp) (a : Addr) (xs : List D) (vs : List V) (f : List Addr) (ds : List D) (us : List V) (d : D) (xs' : List D) (Q : VK),
      H a = some (.lst vs) → Reps C W H xs vs f → Reps C W H ds us [] → mf xs ds = some (d, xs') → d.own = false →
      (∀ v vs' f', Rep C W H d v [] → Reps C W H xs' vs' f' → (f.Nodup → f'.Nodup) → (∀ b ∈ f', b ∈ f) → Q v (upd H a (.lst vs'))) → r2 (.ref a) us H Q)
    (qt : ∀ B A σ H g o Q, R C B A H σ g o → PostA C B A W σ o H Q (m g) → ta σ H Q) (r : R C B A H σ g o) (po : PostE C B A W σ o H Q (M.lmt i mf m g)) : tBM X.K "list" r2 (tVar i) ta σ H Q := by
    unfold M.lmt at po
    cases e0 : M.slot i g with
    | exc x g1 => rw [bind_exc e0] at po; unfold M.slot at e0; split at e0 <;> (try split at e0) <;> cases e0
    | stuck => rw [bind_stuck e0] at po; exact po.elim
    | ok rv g1 =>
      rw [bind_ok e0] at po
      have eg : g1 = g := by
        unfold M.slot at e0
        split at e0
        · split at e0 <;> (cases e0; rfl)
        · cases e0
      subst eg
      split at po
      · rename_i ob xs0 ei
        obtain ⟨v0, ev0, q0⟩ := r.sl i _ ei
        obtain ⟨a0, vs0, f0, rfl, hs0, hr0, _⟩ := q0.obj
        refine ⟨.ref a0, ev0, .inl ⟨rfl, vs0, Std.sqL hs0 (.inl rfl)⟩, qt B A σ H g1 o _ r ?_⟩
        cases e1 : m g1 with
        | exc x g2 => rw [bind_exc e1] at po; exact po
        | stuck => rw [bind_stuck e1] at po; exact po
        | ok rs g2 =>
          rw [bind_ok e1] at po
          intro us H2 o2 r2' x2 rr
          cases e2 : M.stores rs g2 with
          | exc x g3 => exact absurd e2 stores_noexc
          | stuck => rw [bind_stuck e2] at po; exact po.elim
          | ok ds g3 =>
            rw [bind_ok e2] at po
            obtain ⟨o3, r3, x3, pd⟩ := stores_ok r2' rr e2
            split at po
            · rename_i xs ei2
              cases em : mf xs ds with
              | none => rw [em] at po; exact po.elim
              | some p =>
                obtain ⟨d, xs'⟩ := p
                rw [em] at po
                dsimp only at po
                cases w : d.own with
                | true => rw [w, if_pos rfl] at po; exact po.elim
                | false =>
                  rw [w, if_neg Bool.false_ne_true] at po
                  obtain ⟨v1, ev1, q1⟩ := r3.sl i _ ei2
                  rw [ev0] at ev1
                  cases ev1
                  obtain ⟨a, vs, f, ea, hs, hr, _, z1, _⟩ := q1.obj
                  cases ea
                  obtain ⟨_, eo⟩ := z1 rfl
                  refine h _ H2 a0 xs vs f ds us d xs' Q hs hr pd em w fun v vs' f' pv pxs nd sub => ?_
                  have ndf : f.Nodup := by
                    have := r3.nd i
                    rw [eo] at this
                    exact (List.nodup_cons.mp this).2
                  obtain ⟨r4, x4⟩ := r3.mut (H' := upd H2 a0 (.lst vs')) ei2 ev0 eo (fun b hb => upd_ne hb) rfl (show Std C _ a0 .lst vs' from upd_same) pxs (nd ndf) sub
                  refine po v _ _ [] (by rw [por_nil]; exact r4) ((((x2.trans x3 r.lo).trans x4 r.lo)).mono fun b z => z.elim (fun y => y) fun z => nomatch z) ⟨rfl, ?_⟩
                  have hai : a0 ∈ o3 i := by rw [eo]; exact List.mem_cons_self ..
                  refine pv.to (fun b x eb q => ?_) fun b ⟨y, ey⟩ n z => ?_
                  · rw [upd_ne]
                    · exact eb
                    · rintro rfl
                      rcases q with q | q
                      · exact q (.inr ⟨i, hai⟩)
                      · cases q
                  · rcases z with z | z
                    · exact n (.inl z)
                    · rcases x4.new b z with z | z
                      · exact n (.inr z)
                      · rw [ey] at z; cases z
            · exact po.elim
      · exact po.elim
theorem v_lmt0 {x : Str} {i : Nat} {name : Str} {npos apos cpos : Pos} {id : String} {mf : List D → List D → Option (D × List D)} (hm : LMt C X id mf)
    (slot : Slot "list" name id) (hty : typeOf (.builtin id) = pure (.type "method_descriptor")) (hN : X.N[i]? = some x) (hv : Vis X.env.scope x) (hd : (x == ("__debug__" : Str)) = false) (hcd : (x == ("__classdict__" : Str)) = false) (hline : (apos.endLine == cpos.line) = true) :
    VE C X (.Call (.Attribute (.Name x npos) name apos) [] [] cpos) (M.lmt i mf (M.pure [])) := fun W tk => by
  obtain ⟨r2, c, h⟩ := hm
  refine ⟨_, pe_bm0 PySem.F.plainAttrs_list slot hty c (pe_var hN hv hd hcd) (base_plain rfl _ _ _) hline, fun B A σ H g o Q r po => ?_⟩
  exact v_lmt.core (ta := tNil) h (fun B A σ H g o Q r (po : PostA C B A W σ o H Q (M.pure [] g)) => po [] H o r .refl rfl) r po
def lAppend (xs ds : List D) : Option (D × List D) := match ds with
  | [d] => if xs.length < sizeLine then some (.non, xs ++ [d]) else none
  | _ => none
theorem lm_append : LMt C X "list.append" lAppend := by
  refine ⟨_, mt_append, fun W H a xs vs f ds us d xs' Q hH hr hd e w q => ?_⟩
  unfold lAppend at e
  split at e
  · rename_i d0
    split at e
    · rename_i c
      cases e
      obtain ⟨u, r, rfl, h1, h2⟩ := hd.nil_cons
      obtain ⟨rfl, _⟩ := h2
      refine ⟨a, vs, u, rfl, rfl, hH, by rw [hr.length]; exact c, q .non _ f ⟨rfl, rfl⟩ ?_ id fun _ z => z⟩
      have := hr.app (es := [d0]) (us := [u]) (g := []) (.sh_cons h1 ⟨rfl, rfl⟩)
      rwa [List.append_nil] at this
    · cases e
  · cases e
def lPop (xs ds : List D) : Option (D × List D) := match ds with
  | [] => (xs[xs.length - 1]?).map fun d => (d, xs.dropLast)
  | _ => none
theorem Reps.erase {W : AP} {H : Hp} : ∀ {xs : List D} {vs : List V} {f : List Addr} (k : Nat), Reps C W H xs vs f → ∃ f', Reps C W H (xs.eraseIdx k) (vs.eraseIdx k) f' ∧ (f.Nodup → f'.Nodup) ∧ ∀ b ∈ f', b ∈ f
  | [], vs, f, k, h => by obtain ⟨rfl, rfl⟩ := h; exact ⟨[], by simp [Reps], id, fun _ z => z⟩
  | x :: xs, vs, f, 0, h => by
    obtain ⟨v, r, f1, f2, rfl, h1, h2, rfl⟩ := h
    exact ⟨f2, h2, fun n => (List.nodup_append.mp n).2.1, fun b z => List.mem_append_right _ z⟩
  | x :: xs, vs, f, k + 1, h => by
    obtain ⟨v, r, f1, f2, rfl, h1, h2, rfl⟩ := h
    obtain ⟨f', q1, q2, q3⟩ := Reps.erase k h2
    refine ⟨f1 ++ f', ⟨v, r.eraseIdx k, f1, f', rfl, h1, q1, rfl⟩, fun n => ?_, fun b z => ?_⟩
    · obtain ⟨n1, n2, n3⟩ := List.nodup_append.mp n
      exact List.nodup_append.mpr ⟨n1, q2 n2, fun a ha b hb => n3 a ha b (q3 b hb)⟩
    · rcases List.mem_append.mp z with z | z
      · exact List.mem_append_left _ z
      · exact List.mem_append_right _ (q3 b z)
theorem lm_pop : LMt C X "list.pop" lPop := by
  refine ⟨_, mt_pop, fun W H a xs vs f ds us d xs' Q hH hr hd e w q => ?_⟩
  unfold lPop at e
  split at e
  · cases e1 : xs[xs.length - 1]? with
    | none => rw [e1] at e; cases e
    | some d0 =>
      rw [e1] at e
      cases e
      obtain ⟨rfl, _⟩ := hd
      obtain ⟨v, fv, ev, pv, _⟩ := hr.at e1
      have := pv.sh w
      subst this
      obtain ⟨f', p1, p2, p3⟩ := Reps.erase (xs.length - 1) hr
      refine ⟨a, vs, v, rfl, rfl, hH, by rw [hr.length]; exact ev, ?_⟩
      have e1' : xs.eraseIdx (xs.length - 1) = xs.dropLast := List.eraseIdx_eq_dropLast (by have := get_lt e1; omega)
      have e2' : vs.eraseIdx (xs.length - 1) = vs.dropLast := by
        rw [← hr.length]
        exact List.eraseIdx_eq_dropLast (by have := get_lt e1; have := hr.length; omega)
      rw [e1', e2'] at p1
      exact q v _ f' pv p1 p2 p3
  · cases e
def lPopAt (xs ds : List D) : Option (D × List D) := match ds with
  | [.int i] => if -(2 ^ 63) ≤ i ∧ i < 2 ^ 63 then (seqIndex? i xs.length).bind fun k => (xs[k]?).map fun d => (d, xs.eraseIdx k) else none
  | _ => none
theorem lm_popAt : LMt C X "list.pop" lPopAt := by
  refine ⟨_, mt_popAt, fun W H a xs vs f ds us d xs' Q hH hr hd e w q => ?_⟩
  unfold lPopAt at e
  split at e
  · rename_i i
    split at e
    · rename_i c
      cases e0 : seqIndex? i xs.length with
      | none => rw [e0] at e; cases e
      | some k =>
        rw [e0] at e
        cases e1 : xs[k]? with
        | none => simp [e1] at e
        | some d0 =>
          simp [e1] at e
          obtain ⟨rfl, rfl⟩ := e
          obtain ⟨u, r, rfl, h1, h2⟩ := hd.nil_cons
          obtain ⟨rfl, _⟩ := h2
          obtain ⟨rfl, _⟩ := h1
          obtain ⟨v, fv, ev, pv, _⟩ := hr.at e1
          have := pv.sh w
          subst this
          obtain ⟨f', p1, p2, p3⟩ := Reps.erase k hr
          exact ⟨a, vs, i, k, v, rfl, rfl, hH, c.1, c.2, by rw [hr.length]; exact e0, ev, q v _ f' pv p1 p2 p3⟩
    · cases e
  · cases e
def lInsert (xs ds : List D) : Option (D × List D) := match ds with
  | [.int i, d] => if xs.length < sizeLine ∧ 0 ≤ i ∧ i < 2 ^ 63 then some (.non, xs.take i.toNat ++ [d] ++ xs.drop i.toNat) else none
  | _ => none
theorem Reps.split {W : AP} {H : Hp} : ∀ {xs : List D} {vs : List V} {f : List Addr} (k : Nat), Reps C W H xs vs f → ∃ f1 f2, f = f1 ++ f2 ∧ Reps C W H (xs.take k) (vs.take k) f1 ∧ Reps C W H (xs.drop k) (vs.drop k) f2
  | xs, vs, f, 0, h => ⟨[], f, rfl, by simp [Reps], by simpa using h⟩
  | [], vs, f, k + 1, h => by obtain ⟨rfl, rfl⟩ := h; exact ⟨[], [], rfl, by simp [Reps], by simp [Reps]⟩
  | x :: xs, vs, f, k + 1, h => by
    obtain ⟨v, r, f1, f2, rfl, h1, h2, rfl⟩ := h
    obtain ⟨g1, g2, rfl, q1, q2⟩ := Reps.split k h2
    exact ⟨f1 ++ g1, g2, by rw [List.append_assoc], ⟨v, r.take k, f1, g1, rfl, h1, q1, rfl⟩, q2⟩
theorem lm_insert : LMt C X "list.insert" lInsert := by
  refine ⟨_, mt_insert, fun W H a xs vs f ds us d xs' Q hH hr hd e w q => ?_⟩
  unfold lInsert at e
  split at e
  · rename_i i d0
    split at e
    · rename_i c
      cases e
      obtain ⟨u, r, rfl, h1, h2⟩ := hd.nil_cons
      obtain ⟨u2, r2, rfl, h3, h4⟩ := h2.nil_cons
      obtain ⟨rfl, _⟩ := h4
      obtain ⟨rfl, _⟩ := h1
      obtain ⟨f1, f2, rfl, q1, q2⟩ := Reps.split i.toNat hr
      refine ⟨a, vs, i, u2, rfl, rfl, hH, by rw [hr.length]; exact c.1, c.2.1, c.2.2, q .non _ (f1 ++ f2) ⟨rfl, rfl⟩ ?_ id fun _ z => z⟩
      have := (q1.app (es := [d0]) (us := [u2]) (g := []) (.sh_cons h3 ⟨rfl, rfl⟩)).app q2
      rwa [List.append_nil] at this
    · cases e
  · cases e
def lClear (_ ds : List D) : Option (D × List D) := match ds with
  | [] => some (.non, [])
  | _ => none
theorem lm_clear : LMt C X "list.clear" lClear := by
  refine ⟨_, mt_clear, fun W H a xs vs f ds us d xs' Q hH hr hd e w q => ?_⟩
  unfold lClear at e
  split at e
  · cases e
    obtain ⟨rfl, _⟩ := hd
    exact ⟨a, vs, rfl, rfl, hH, q .non [] [] ⟨rfl, rfl⟩ ⟨rfl, rfl⟩ (fun _ => List.nodup_nil) fun _ z => nomatch z⟩
  · cases e
def lExtend (xs ds : List D) : Option (D × List D) := match ds with
  | [.obj false .lst ys] => if xs.length + ys.length ≤ sizeLine then some (.non, xs ++ ys) else none
  | _ => none
theorem lm_extend : LMt C X "list.extend" lExtend := by
  refine ⟨_, mt_extend, fun W H a xs vs f ds us d xs' Q hH hr hd e w q => ?_⟩
  unfold lExtend at e
  split at e
  · rename_i ys
    split at e
    · rename_i c
      cases e
      obtain ⟨u, r, rfl, h1, h2⟩ := hd.nil_cons
      obtain ⟨rfl, _⟩ := h2
      obtain ⟨b, ws, f', rfl, hs, hr2, _, _, z⟩ := h1.obj
      obtain ⟨rfl, _⟩ := z rfl
      refine ⟨a, b, vs, ws, rfl, rfl, hH, hs, by rw [hr.length, hr2.length]; exact c, q .non _ f ⟨rfl, rfl⟩ ?_ id fun _ z => z⟩
      have := hr.app hr2
      rwa [List.append_nil] at this
    · cases e
  · cases e
end
end VL

set_option Elab.async false
set_option linter.all false
set_option maxRecDepth 100000
set_option maxHeartbeats 1000000
/-! Stores by subscript; dicts made; comprehensions. -/
namespace VL
open PySem PySem.Spec L2

section
variable {C : CMap} {W : AP} {H : Hp}
theorem Reps.set {d : D} {v : V} (hd : Rep C W H d v []) : ∀ {xs : List D} {vs : List V} {f : List Addr} (k : Nat), Reps C W H xs vs f → ∃ f', Reps C W H (xs.set k d) (vs.set k v) f' ∧ (f.Nodup → f'.Nodup) ∧ ∀ b ∈ f', b ∈ f
  | [], vs, f, k, h => by obtain ⟨rfl, rfl⟩ := h; exact ⟨[], by simp [Reps], id, fun _ z => z⟩
  | x :: xs, vs, f, 0, h => by
    obtain ⟨u, r, f1, f2, rfl, h1, h2, rfl⟩ := h
    exact ⟨f2, ⟨v, r, [], f2, rfl, hd, h2, rfl⟩, fun n => (List.nodup_append.mp n).2.1, fun b z => List.mem_append_right _ z⟩
  | x :: xs, vs, f, k + 1, h => by
    obtain ⟨u, r, f1, f2, rfl, h1, h2, rfl⟩ := h
    obtain ⟨f', q1, q2, q3⟩ := Reps.set hd k h2
    refine ⟨f1 ++ f', ⟨u, r.set k v, f1, f', rfl, h1, q1, rfl⟩, fun n => ?_, fun b z => ?_⟩
    · obtain ⟨n1, n2, n3⟩ := List.nodup_append.mp n
      exact List.nodup_append.mpr ⟨n1, q2 n2, fun a ha b hb => n3 a ha b (q3 b hb)⟩
    · rcases List.mem_append.mp z with z | z
      · exact List.mem_append_left _ z
      · exact List.mem_append_right _ (q3 b z)
theorem Reps.mapPut {κ : Type} [DecidableEq κ] {k : κ} {d : D} {v : V} (hd : Rep C W H d v []) : ∀ {ks : List κ} {xs : List D} {vs : List V} {f : List Addr}, ks.length = xs.length → Reps C W H xs vs f →
    ∃ f', Reps C W H ((ks.zip xs).map fun p => if p.1 = k then d else p.2) ((ks.zip vs).map fun p => if p.1 = k then v else p.2) f' ∧ (f.Nodup → f'.Nodup) ∧ ∀ b ∈ f', b ∈ f
  | [], [], vs, f, _, h => by obtain ⟨rfl, rfl⟩ := h; exact ⟨[], by simp [Reps], id, fun _ z => z⟩
  | q :: ks, x :: xs, vs, f, hl, h => by
    obtain ⟨u, r, f1, f2, rfl, h1, h2, rfl⟩ := h
    obtain ⟨f', q1, q2, q3⟩ := Reps.mapPut (k := k) hd (ks := ks) (by simpa using hl) h2
    rw [List.zip_cons_cons, List.zip_cons_cons, List.map_cons, List.map_cons]
    by_cases c : q = k
    · rw [if_pos c, if_pos c]
      exact ⟨f', ⟨v, _, [], f', rfl, hd, q1, rfl⟩, fun n => q2 (List.nodup_append.mp n).2.1, fun b z => List.mem_append_right _ (q3 b z)⟩
    · rw [if_neg c, if_neg c]
      refine ⟨f1 ++ f', ⟨u, _, f1, f', rfl, h1, q1, rfl⟩, fun n => ?_, fun b z => ?_⟩
      · obtain ⟨n1, n2, n3⟩ := List.nodup_append.mp n
        exact List.nodup_append.mpr ⟨n1, q2 n2, fun a ha b hb => n3 a ha b (q3 b hb)⟩
      · rcases List.mem_append.mp z with z | z
        · exact List.mem_append_left _ z
        · exact List.mem_append_right _ (q3 b z)
  | [], _ :: _, _, _, hl, _ => by cases hl
  | _ :: _, [], _, _, hl, _ => by cases hl
theorem zip_any {κ α : Type} [DecidableEq κ] {k : κ} : ∀ {ks : List κ} {vs : List α}, ks.length = vs.length → ((ks.zip vs).any fun p => decide (p.1 = k)) = decide (k ∈ ks)
  | [], _, _ => by simp
  | q :: ks, [], h => by cases h
  | q :: ks, v :: vs, h => by
    rw [List.zip_cons_cons, List.any_cons, zip_any (by simpa using h)]
    by_cases c : q = k
    · simp [c]
    · have : ¬ k = q := fun z => c z.symm
      simp [c, this]
theorem zip_put {κ : Type} [DecidableEq κ] {k : κ} {v : V} : ∀ {ks : List κ} {vs : List V}, ks.length = vs.length → (ks.zip vs).map (fun p => if p.1 = k then (p.1, v) else p) = ks.zip ((ks.zip vs).map fun p => if p.1 = k then v else p.2)
  | [], _, _ => by simp
  | q :: ks, [], h => by cases h
  | q :: ks, u :: vs, h => by
    rw [List.zip_cons_cons, List.map_cons, List.map_cons, List.zip_cons_cons, zip_put (by simpa using h)]
    by_cases c : q = k
    · rw [if_pos c, if_pos c]
    · rw [if_neg c, if_neg c]
/-- the dict behind a store -/
theorem Reps.put {κ : Type} [DecidableEq κ] {k : κ} {d : D} {v : V} {ks : List κ} {xs : List D} {vs : List V} {f : List Addr} (hd : Rep C W H d v []) (hl : ks.length = vs.length) (h : Reps C W H xs vs f) :
    ∃ vs' f', putK (ks.zip vs) k v = (dput ks xs k d).1.zip vs' ∧ (dput ks xs k d).1.length = vs'.length ∧ Reps C W H (dput ks xs k d).2 vs' f' ∧ (f.Nodup → f'.Nodup) ∧ ∀ b ∈ f', b ∈ f := by
  unfold putK dput
  rw [zip_any hl]
  by_cases c : k ∈ ks
  · rw [if_pos c, decide_eq_true c, if_pos rfl]
    obtain ⟨f', q1, q2, q3⟩ := Reps.mapPut (k := k) hd (hl.trans h.length) h
    exact ⟨_, f', zip_put hl, by simp [hl], q1, q2, q3⟩
  · rw [if_neg c, decide_eq_false c, if_neg Bool.false_ne_true]
    refine ⟨vs ++ [v], f, ?_, by simp [hl], ?_, id, fun _ z => z⟩
    · rw [List.zip_append hl]; rfl
    · have := h.app (es := [d]) (us := [v]) (g := []) (.sh_cons hd ⟨rfl, rfl⟩)
      rwa [List.append_nil] at this
end

/-! ### x[k] = e, x an own list or dict in a slot -/
/-- the object behind the store: its shape, its parts -/
def putAt (s : Sh) (xs : List D) (k d : D) : Option (Sh × List D) := match s with
  | .lst => (match k with | .int i => (ixN xs.length i).map fun j => (.lst, xs.set j d) | _ => none)
  | .dk ks => (match k.key with | some q => if ks.length < sizeLine then some (.dk (dput ks xs q d).1, (dput ks xs q d).2) else none | none => none)
  | .dt ks => (match k.tkey with | some q => if ks.length < sizeLine then some (.dt (dput ks xs q d).1, (dput ks xs q d).2) else none | none => none)
  | _ => none
def S.sub (i : Nat) (a k : M RV) : S := fun g => match M.bind (M.opd a) (fun x => M.bind (M.slot i) fun _ => M.bind k fun y => fun g => if x.live g = true then M.bind (M.store x) (fun d => fun g => .ok (d, y) g) g else .stuck) g with
  | .ok (d, y) g' => if y.live g' = true then (match y.at g', g'[i]? with
    | some kd, some (some (.obj true s xs)) => (match putAt s xs kd d with
      | some (s', xs') => .nx (g'.set i (some (.obj true s' xs')))
      | none => .stuck)
    | _, _ => .stuck) else .stuck
  | .exc x g' => .exc x g'
  | .stuck => .stuck
section
variable {C : CMap} {Fx : Nat → Bool} {X : Cx} [CK C X.K]
theorem set_dict (hu : X.A.units + 1 < cLine) : PSet X (fun o i v H Q => ∃ a H', o = .ref a ∧ DPut H a i v H' ∧ Q H') := by
  intro pins s σ H o i v ov iv u Q I ro ri rv h
  obtain ⟨a, H', rfl, g, q⟩ := h
  cases ro
  exact d_setItem hu I g ri rv fun s' I' => ⟨H', I', q⟩
theorem PSet.or {t t' : TSet} (h : PSet X t) (h' : PSet X t') : PSet X (fun o i v H Q => t o i v H Q ∨ t' o i v H Q) := by
  intro pins s σ H o i v ov iv u Q I ro ri rv q
  rcases q with q | q
  · exact h pins s σ H o i v ov iv u Q I ro ri rv q
  · exact h' pins s σ H o i v ov iv u Q I ro ri rv q
theorem slot_id {i : Nat} {g g1 : G} {rv : RV} (e : M.slot i g = .ok rv g1) : g1 = g ∧ ∃ d, g[i]? = some (some d) := by
  unfold M.slot at e
  split at e
  · rename_i d ed
    split at e <;> (cases e; exact ⟨rfl, d, ed⟩)
  · cases e
theorem slot_noexc {i : Nat} {g g1 : G} {x : Ex} : M.slot i g ≠ .exc x g1 := by
  unfold M.slot
  split
  · split <;> exact fun z => nomatch z
  · exact fun z => nomatch z
theorem vs_sub {x : Str} {i : Nat} {idx e : Expr} {a k : M RV} {npos spos pos : Pos} (hu : X.A.units + 1 < cLine) (hN : X.N[i]? = some x) (hv : Vis X.env.scope x) (hd : (x == ("__debug__" : Str)) = false) (hcd : (x == ("__classdict__" : Str)) = false)
    (he : VE C X e a) (hk : VO C X idx k) (hc : noComp e = true) (hx : noSlice idx = true) : VS C Fx X (.Assign [.Subscript (.Name x npos) idx spos] e pos) (S.sub i a k) := fun W tk => by
  obtain ⟨te, pe, qe⟩ := he.opd W tk
  obtain ⟨ti, pi_, qi⟩ := hk W tk
  have hsw : swapsWithSole [.Subscript (.Name x npos) idx spos] e pos.line X.env = pure false := by
    show swapsWith e (some (.Subscript (.Name x npos) idx spos)) pos.line X.env = pure false
    exact swapsWith_plain hc
  have hst : swappedStores [.Subscript (.Name x npos) idx spos] e X.env = pure none := by cases e <;> rfl
  refine ⟨_, ps_asg pe (pg_sub (pe_var hN hv hd hcd) pi_ (PSet.or set_list (set_dict hu)) (fun v => by cases idx <;> first | rfl | cases hx)) hsw hst, fun B A σ H g o D hB r po => ?_⟩
  refine qe B A σ H g o _ r ?_
  unfold S.sub at po
  cases e1 : M.opd a g with
  | exc z g1 => rw [bind_exc e1] at po; exact fun cls d H' o' r' x' ex => po cls d σ H' o' r' x' ex
  | stuck => rw [bind_stuck e1] at po; exact po
  | ok rv g1 =>
    rw [bind_ok e1] at po
    intro v H1 o1 r1 x1 rr
    cases e0 : M.slot i g1 with
    | exc z g2 => exact absurd e0 slot_noexc
    | stuck => rw [bind_stuck e0] at po; exact po.elim
    | ok rv0 g2 =>
      rw [bind_ok e0] at po
      obtain ⟨rfl, d0, ed0⟩ := slot_id e0
      obtain ⟨v0, ev0, q0⟩ := r1.sl i d0 ed0
      refine ⟨v0, ev0, qi B A σ H1 g2 o1 _ r1 ?_⟩
      cases e2 : k g2 with
      | exc z g3 => rw [bind_exc e2] at po; exact fun cls d H' o' r' x' ex => po cls d σ H' o' r' (x1.trans x' r.lo) ex
      | stuck => rw [bind_stuck e2] at po; exact po
      | ok y g3 =>
        rw [bind_ok e2] at po
        intro w H2 o2 r2 x2 ry
        cases lv : rv.live g3 with
        | false => rw [lv, if_neg Bool.false_ne_true] at po; exact po.elim
        | true =>
          rw [lv, if_pos rfl] at po
          have rr2 := rr.stay2 r1 r2 x2 lv
          cases e3 : M.store rv g3 with
          | exc z g4 => exact absurd e3 store_noexc
          | stuck => rw [bind_stuck e3] at po; exact po.elim
          | ok d g4 =>
            rw [bind_ok e3] at po
            obtain ⟨o3, r3, x3, pd⟩ := store_ok r2 rr2 e3
            dsimp only at po
            cases ly : y.live g4 with
            | false => rw [ly, if_neg Bool.false_ne_true] at po; exact po.elim
            | true =>
              rw [ly, if_pos rfl] at po
              have ry3 := ry.stay2 r2 r3 x3 ly
              cases ey : y.at g4 with
              | none => rw [ey] at po; exact po.elim
              | some kd =>
                rw [ey] at po
                obtain ⟨fk, pk, _⟩ := ry3.rep r3 ey
                split at po
                · rename_i kd' s xs hkd hg
                  cases hkd
                  cases ep : putAt s xs kd d with
                  | none => rw [ep] at po; exact po.elim
                  | some p =>
                    obtain ⟨s', xs'⟩ := p
                    rw [ep] at po
                    dsimp only at po
                    obtain ⟨v1, ev1, q1⟩ := r3.sl i _ hg
                    rw [ev0] at ev1
                    cases ev1
                    obtain ⟨b, vs, f, rfl, hs, hr, _, z1, _⟩ := q1.obj
                    obtain ⟨hst2, eo⟩ := z1 rfl
                    have ndf : f.Nodup := by
                      have := r3.nd i
                      rw [eo] at this
                      exact (List.nodup_cons.mp this).2
                    have fin : ∀ (vs' : List V) (f' : List Addr) (ho : HO), s'.mutb = true → Std C (upd H2 b ho) b s' vs' → Reps C (W2 A o3) H2 xs' vs' f' → (f.Nodup → f'.Nodup) → (∀ c ∈ f', c ∈ f) → D.nx σ (upd H2 b ho) := fun vs' f' ho hn st pr nd sub => by
                      obtain ⟨r4, x4⟩ := r3.mut (H' := upd H2 b ho) hg ev0 eo (fun c hc => upd_ne hc) hn st pr (nd ndf) sub
                      exact po _ _ _ r4 (((x1.trans x2 r.lo).trans x3 r.lo).trans x4 r.lo)
                    cases s with
                    | lst =>
                      cases kd with
                      | int j =>
                        simp only [putAt] at ep
                        cases ej : ixN xs.length j with
                        | none => rw [ej] at ep; cases ep
                        | some n =>
                          rw [ej] at ep
                          cases ep
                          obtain ⟨rfl, _⟩ := pk
                          obtain ⟨f', p1, p2, p3⟩ := Reps.set pd n hr
                          exact .inl ⟨b, vs, j, n, rfl, rfl, hs, by rw [hr.length]; exact ej, fin _ f' _ rfl (show Std C _ b .lst _ from upd_same) p1 p2 p3⟩
                      | _ => cases ep
                    | dk ks =>
                      simp only [putAt] at ep
                      cases ek : kd.key with
                      | none => rw [ek] at ep; cases ep
                      | some kk =>
                        rw [ek] at ep
                        dsimp only at ep
                        by_cases cl : ks.length < sizeLine
                        · rw [if_pos cl] at ep
                          cases ep
                          obtain rfl := pk.key ek
                          obtain ⟨vs', f', p0, p1, p2, p3, p4⟩ := Reps.put (k := kk) pd hs.1 hr
                          refine .inr ⟨b, _, rfl, DPut.k hs.2 (by rw [List.length_zip, ← hs.1, Nat.min_self]; exact cl), ?_⟩
                          rw [p0]
                          exact fin vs' f' _ rfl ⟨p1, upd_same⟩ p2 p3 p4
                        · rw [if_neg cl] at ep; cases ep
                    | dt ks =>
                      simp only [putAt] at ep
                      cases ek : kd.tkey with
                      | none => rw [ek] at ep; cases ep
                      | some kk =>
                        rw [ek] at ep
                        dsimp only at ep
                        by_cases cl : ks.length < sizeLine
                        · rw [if_pos cl] at ep
                          cases ep
                          obtain ⟨q, rfl, hq⟩ := pk.tkey ek
                          obtain ⟨vs', f', p0, p1, p2, p3, p4⟩ := Reps.put (k := kk) pd hs.1 hr
                          refine .inr ⟨b, _, rfl, DPut.t hs.2 hq (by rw [List.length_zip, ← hs.1, Nat.min_self]; exact cl), ?_⟩
                          rw [p0]
                          exact fin vs' f' _ rfl ⟨p1, upd_same⟩ p2 p3 p4
                        · rw [if_neg cl] at ep; cases ep
                    | _ => cases ep
                · exact po.elim
end
end VL

set_option Elab.async false
set_option linter.all false
set_option maxRecDepth 100000
set_option maxHeartbeats 1000000
/-! List comprehensions. -/
namespace VL
open PySem PySem.Spec L2

/-! ### readings that name no context -/
section
variable {C : CMap} {X : Cx} [CK C X.K]
def tV (C : CMap) (W : WX) (m : M RV) : TE := fun σ H Q => ∃ B A g o, R C B A H σ g o ∧ PostE C B A W σ o H Q (m g)
def tVT (C : CMap) (W : WX) (m : M Bool) : TT := fun σ H Q => ∃ B A g o, R C B A H σ g o ∧ PostB C B A W σ o H Q (m g)
def gV (C : CMap) (Fx : Nat → Bool) (t : Tgt) : TG := fun v σ H Q => ∃ B A g o d g', BF Fx B ∧ R C B A H σ g o ∧ Rep C (W2 A o) H d v [] ∧ Tgt.put Fx t d g = some g' ∧ ∀ σ' o', R C B A H σ' g' o' → Ext (inO o) (inO o') H H → SameBut t.slots σ σ' → Q σ' H
theorem VE.can {e : Expr} {m : M RV} (h : VE C X e m) {W : WX} (tk : Takes X W) : PE X e (tV C W m) := by
  obtain ⟨t, p, q⟩ := h W tk
  exact ⟨fun pins s σ H Q I ⟨B, A, g, o, r, po⟩ => p.run pins s σ H Q I (q B A σ H g o Q r po)⟩
theorem VT.can {e : Expr} {m : M Bool} (h : VT C X e m) {W : WX} (tk : Takes X W) : PT X e (tVT C W m) := by
  obtain ⟨t, p, q⟩ := h W tk
  exact ⟨fun pins s σ H Q I ⟨B, A, g, o, r, po⟩ => p.run pins s σ H Q I (q B A σ H g o Q r po)⟩
theorem VG.can {Fx : Nat → Bool} {e : Expr} {t : Tgt} (h : VG C Fx X e t) : PG X e (gV C Fx t) := by
  obtain ⟨gt, p, q⟩ := h
  exact ⟨fun pins s σ H v u Q I r ⟨B, A, g, o, d, g', hB, rr, hd, e, k⟩ => p.run pins s σ H v u Q I r (q B A σ H g o d v g' Q hB rr hd e k)⟩
def W0 : WX := fun _ _ _ _ => False
theorem takes0 {X : Cx} : Takes X W0 := fun u s' x => by
  obtain ⟨_, _, _, _, _, _, _, _, _, _, _, _, _, _, _, _, w⟩ := x
  exact w.elim
end
/-! ### the loop -/
def wipeG (g : G) : List Nat → G
  | [] => g
  | v :: vs => (wipeG g vs).set v none
/-- the slots vs as they were in g0 -/
def backG (g0 g : G) : List Nat → G
  | [] => g
  | v :: vs => (backG g0 g vs).set v (g0[v]?).join
def noOwn (g : G) (vs : List Nat) : Bool := vs.all fun v => match g[v]? with
  | some (some d) => !d.own
  | _ => true
/-- the items' turns: f the target, mt the test, me the element -/
def lcL (f : D → G → Option G) (mt : M Bool) (me : M RV) (vs : List Nat) : List D → List D → G → Out (List D)
  | [], acc, g => .ok acc g
  | d :: ds, acc, g => match f d (wipeG g vs) with
    | none => .stuck
    | some g1 => (match mt g1 with
      | .ok true g2 => (match M.bind me M.store g2 with
        | .ok y g3 => if acc.length < sizeLine then lcL f mt me vs ds (acc ++ [y]) g3 else .stuck
        | _ => .stuck)
      | .ok false g2 => lcL f mt me vs ds acc g2
      | _ => .stuck)
def M.lc (f : D → G → Option G) (vs : List Nat) (mi : M (List D)) (mt : M Bool) (me : M RV) : M RV := fun g => match mi g with
  | .ok ds g1 => if noOwn g1 vs = true then (match lcL f mt me vs ds [] g1 with
    | .ok acc g2 => .ok (.ow (.obj true .lst acc)) (backG g1 g2 vs)
    | _ => .stuck) else .stuck
  | .exc x g1 => .exc x g1
  | .stuck => .stuck
theorem wipeG_len (g : G) : ∀ vs, (wipeG g vs).length = g.length
  | [] => rfl
  | v :: vs => by unfold wipeG; rw [List.length_set, wipeG_len g vs]
theorem wipeG_some {g : G} {i : Nat} {d : D} : ∀ {vs : List Nat}, (wipeG g vs)[i]? = some (some d) → g[i]? = some (some d) ∧ i ∉ vs
  | [], h => ⟨h, by simp⟩
  | v :: vs, h => by
    unfold wipeG at h
    by_cases c : v = i
    · subst c
      have hl := get_lt h
      rw [List.length_set] at hl
      rw [List.getElem?_set_self hl] at h
      cases h
    · rw [List.getElem?_set_ne c] at h
      obtain ⟨h1, h2⟩ := wipeG_some h
      exact ⟨h1, fun z => (List.mem_cons.mp z).elim (fun e => c e.symm) h2⟩
theorem wipe_at {σ : L2.St} {i : Nat} : ∀ {vs : List Nat}, i ∉ vs → (wipe σ vs)[i]? = σ[i]?
  | [], _ => rfl
  | v :: vs, h => by
    unfold wipe
    rw [List.getElem?_set_ne (fun e => h (by rw [e]; exact List.mem_cons_self ..)), wipe_at fun z => h (List.mem_cons_of_mem _ z)]
theorem backG_len (g0 g : G) : ∀ vs, (backG g0 g vs).length = g.length
  | [] => rfl
  | v :: vs => by unfold backG; rw [List.length_set, backG_len g0 g vs]
theorem backG_some {g0 g : G} {i : Nat} {d : D} : ∀ {vs : List Nat}, (backG g0 g vs)[i]? = some (some d) → (i ∈ vs ∧ g0[i]? = some (some d)) ∨ (i ∉ vs ∧ g[i]? = some (some d))
  | [], h => .inr ⟨by simp, h⟩
  | v :: vs, h => by
    unfold backG at h
    by_cases c : v = i
    · subst c
      have hl := get_lt h
      rw [List.length_set] at hl
      rw [List.getElem?_set_self hl] at h
      refine .inl ⟨List.mem_cons_self .., ?_⟩
      have h : (g0[v]?).join = some d := Option.some.inj h
      cases z : g0[v]? with
      | none => rw [z] at h; cases h
      | some y => rw [z] at h; cases y with
        | none => cases h
        | some w => cases h; rfl
    · rw [List.getElem?_set_ne c] at h
      rcases backG_some h with ⟨h1, h2⟩ | ⟨h1, h2⟩
      · exact .inl ⟨List.mem_cons_of_mem _ h1, h2⟩
      · exact .inr ⟨fun z => (List.mem_cons.mp z).elim (fun e => c e.symm) h1, h2⟩
section
variable {C : CMap} {B : List (Nat × V)} {A : AP} {H H' : Hp} {σ σ2 : L2.St} {g : G} {o : Ow}
theorem R.wiped {vs : List Nat} (r : R C B A H σ2 g o) (e : wipe σ2 vs = wipe σ vs) : R C [] A H (wipe σ vs) (wipeG g vs) o where
  len := by rw [← e, wipe_length, wipeG_len]; exact r.len
  sl i d h := by
    obtain ⟨h1, h2⟩ := wipeG_some h
    obtain ⟨v, ev, q⟩ := r.sl i d h1
    exact ⟨v, by rw [← e, wipe_at h2]; exact ev, q⟩
  nd := r.nd
  dj := r.dj
  dA := r.dA
  lv := r.lv
  lA := r.lA
  bd := fun p hp => nomatch hp
  xh := r.xh
/-- what others own changes -/
theorem R.other {p : Addr} {x : HO} (r : R C B A H σ g o) (hp : A p) : R C B A (upd H p x) σ g o := by
  have nW : ∀ {a}, ¬ W2 A o a → a ≠ p := fun n e => n (by rw [e]; exact .inl hp)
  have keep : ∀ a y, H a = some y → a ≠ p → upd H p x a = some y := fun a y e n => by rw [upd_ne n]; exact e
  have lv : ∀ a, (∃ y, H a = some y) → ∃ y, upd H p x a = some y := fun a ⟨y, e⟩ => by
    by_cases h : a = p
    · subst h; exact ⟨x, upd_same⟩
    · exact ⟨y, keep a y e h⟩
  refine ⟨r.len, fun i d e => ?_, r.nd, r.dj, r.dA, fun i a z => lv a (r.lv i a z), fun a z => lv a (r.lA a z), r.bd, fun q hq => (r.xh q hq).to (fun a y e n => keep a y e (nW n)) fun _ _ n => n⟩
  obtain ⟨v, ev, q⟩ := r.sl i d e
  refine ⟨v, ev, q.to (fun a y e z => keep a y e ?_) fun _ _ n => n⟩
  rcases z with z | z
  · exact nW z
  · rintro rfl; exact r.dA i a z hp
theorem Reps.other {ds : List D} {us : List V} {p : Addr} {x : HO} (h : Reps C (W2 A o) H ds us []) (hp : A p) : Reps C (W2 A o) (upd H p x) ds us [] :=
  h.to (fun a y e z => by
    rw [upd_ne]
    · exact e
    · rintro rfl
      rcases z with z | z
      · exact z (.inl hp)
      · cases z) fun _ _ n => n
end
section
variable {C : CMap} {X : Cx} [CK C X.K]
mutual
theorem put_len {Fx : Nat → Bool} : ∀ {t : Tgt} {d : D} {g g' : G}, Tgt.put Fx t d g = some g' → g'.length = g.length
  | .slot i, d, g, g', e => by
    unfold Tgt.put at e
    split at e
    · cases e
    · cases e; exact List.length_set ..
  | .tup ts, d, g, g', e => by
    cases d with
    | obj o s xs =>
      cases s with
      | tup => exact puts_len (show Tgt.puts Fx ts xs g = some g' by unfold Tgt.put at e; exact e)
      | lst => exact puts_len (show Tgt.puts Fx ts xs g = some g' by unfold Tgt.put at e; exact e)
      | _ => unfold Tgt.put at e; cases e
    | _ => unfold Tgt.put at e; cases e
theorem puts_len {Fx : Nat → Bool} : ∀ {ts : List Tgt} {ds : List D} {g g' : G}, Tgt.puts Fx ts ds g = some g' → g'.length = g.length
  | [], [], g, g', e => by cases e; rfl
  | t :: ts, d :: ds, g, g', e => by
    unfold Tgt.puts at e
    cases e1 : Tgt.put Fx t d g with
    | none => rw [e1] at e; cases e
    | some g1 => rw [e1] at e; exact (puts_len e).trans (put_len e1)
  | [], _ :: _, _, _, e => by cases e
  | _ :: _, [], _, _, e => by cases e
end
theorem wipe_same {σ σ' : L2.St} {vs l : List Nat} (hl : σ'.length = σ.length) (h : SameBut l (wipe σ vs) σ') (sub : ∀ i ∈ l, i ∈ vs) : wipe σ' vs = wipe σ vs := by
  apply List.ext_getElem?
  intro i
  by_cases c : i ∈ vs
  · have none_at : ∀ (τ : L2.St) (ws : List Nat), i ∈ ws → (wipe τ ws)[i]? = if i < τ.length then some none else none := by
      intro τ ws
      induction ws with
      | nil => intro h; cases h
      | cons v ws ih =>
        intro hm
        unfold wipe
        by_cases e : v = i
        · subst e
          by_cases hlt : v < τ.length
          · rw [List.getElem?_set_self (by rw [wipe_length]; exact hlt), if_pos hlt]
          · rw [if_neg hlt]
            exact List.getElem?_eq_none (by rw [List.length_set, wipe_length]; omega)
        · rw [List.getElem?_set_ne e]
          exact ih ((List.mem_cons.mp hm).elim (fun z => absurd z.symm e) id)
    rw [none_at σ' vs c, none_at σ vs c, hl]
  · rw [wipe_at c, h i fun z => c (sub i z)]
theorem lc_reads {Fx : Nat → Bool} {wi : TI} {t : Tgt} {mi : M (List D)} {mt : M Bool} {me : M RV} {vs : List Nat} {W : WX} {tt : TT}
    (hvs : ∀ i ∈ t.slots, i ∈ vs) (htt : ∀ B A σ H g o (Q : Bool → Hp → Prop), R C B A H σ g o → PostB C B A W0 σ o H Q (mt g) → tt σ H Q)
    (hwi : ∀ B A σ H g o (Q : It → Hp → Prop), R C B A H σ g o → PostI C B A W σ o H Q (mi g) → wi σ H Q)
    {B : List (Nat × V)} {A : AP} {σ : L2.St} {H : Hp} {g : G} {o : Ow} {Q : VK} (r : R C B A H σ g o) (po : PostE C B A W σ o H Q (M.lc (Tgt.put Fx t) vs mi mt me g)) : tLc wi (gV C Fx t) tt (tV C W0 me) vs σ H Q := by
  refine hwi B A σ H g o _ r ?_
  unfold M.lc at po
  cases e1 : mi g with
  | exc x g1 => rw [e1] at po; exact po
  | stuck => rw [e1] at po; exact po
  | ok ds g1 =>
    rw [e1] at po
    intro J H1 o1 r1 x1 wk Dp hDp
    dsimp only at po
    cases en : noOwn g1 vs with
    | false => rw [en, if_neg Bool.false_ne_true] at po; exact po.elim
    | true =>
      rw [en, if_pos rfl] at po
      cases el : lcL (Tgt.put Fx t) mt me vs ds [] g1 with
      | exc x g2 => rw [el] at po; exact po.elim
      | stuck => rw [el] at po; exact po.elim
      | ok accF gF =>
        rw [el] at po
        dsimp only at po
        -- the turns' invariant
        refine ⟨fun i n H' => n = ds.length - i ∧ i ≤ ds.length ∧ ∃ g' o' acc us, R C [] (por A [Dp]) H' (wipe σ vs) (wipeG g' vs) o' ∧ g'.length = g1.length ∧ (∀ j d, j ∉ vs → g'[j]? = some (some d) → ∃ v, σ[j]? = some (some v) ∧ Rep C (W2 (por A [Dp]) o') H' d v (o' j)) ∧
          H' Dp = some (.lst us) ∧ Reps C (W2 (por A [Dp]) o') H' acc us [] ∧ (∀ a x, H1 a = some x → ¬ inO o1 a → H' a = some x) ∧ (∀ a, inO o' a → inO o1 a ∨ H1 a = none) ∧ lcL (Tgt.put Fx t) mt me vs (ds.drop i) acc g' = .ok accF gF, ?_, ?_⟩
        · refine ⟨_, rfl, Nat.zero_le _, g1, o1, [], [], (r1.new hDp).wiped rfl, rfl, fun j d hj e => ?_, upd_same, ⟨rfl, rfl⟩, fun a x e _ => ?_, fun a z => .inl z, by rw [List.drop_zero]; exact el⟩
          · exact (r1.new hDp).sl j d e
          · rw [upd_ne (ne_of_none e hDp)]; exact e
        · rintro i n H2 ⟨rfl, hi, g2, o2, acc, us, r2, hg2, sl2, hD2, ra2, keep2, new2, el2⟩
          have wk2 := wk [] (por A [Dp]) H2 (wipe σ vs) (wipeG g2 vs) o2 r2 (fun a x e n => keep2 a x e fun z => n (.inr z)) (fun a z => by
            rcases z with (z | z) | z
            · exact .inl (.inl z)
            · obtain rfl : a = Dp := by simpa using z
              exact .inr hDp
            · exact (new2 a z).imp_left .inr) i
          by_cases hl : i < ds.length
          · right
            obtain ⟨go, y⟩ := wk2.2 ds[i] (List.getElem?_eq_getElem hl)
            refine ⟨go, _, fun H' h => ⟨ds.length - (i + 1), by omega, rfl, by omega, h⟩, fun x H3 hy => ?_⟩
            obtain ⟨r3, x3, q3⟩ := y x H3 hy
            rw [List.drop_eq_getElem_cons hl] at el2
            unfold lcL at el2
            cases ep : Tgt.put Fx t ds[i] (wipeG g2 vs) with
            | none => rw [ep] at el2; cases el2
            | some g3 =>
              rw [ep] at el2
              dsimp only at el2
              refine ⟨[], por A [Dp], wipeG g2 vs, o2, ds[i], g3, fun _ z => (nomatch z), r3, q3, ep, fun σ4 o4 r4 x4 sb4 => ?_⟩
              have hw4 : wipe σ4 vs = wipe σ vs := by
                have hlen : σ4.length = σ.length := by
                  have h1 := r4.len
                  have h2 := r2.len
                  rw [wipe_length, wipeG_len] at h2
                  have h3 := put_len ep
                  rw [wipeG_len] at h3
                  omega
                exact wipe_same hlen sb4 hvs
              refine ⟨hw4, htt [] (por A [Dp]) σ4 H3 g3 o4 _ r4 ?_⟩
              have x34 : Ext (inO o2) (inO o4) H2 H3 := x3.trans x4 r2.lo
              cases em : mt g3 with
              | exc z g4 => rw [em] at el2; cases el2
              | stuck => rw [em] at el2; cases el2
              | ok b g4 =>
                rw [em] at el2
                intro H5 o5 r5 x5
                have x5' : Ext (inO o2) (inO o5) H2 H5 := x34.trans x5 r2.lo
                have nD : ¬ inO o2 Dp := fun z => by
                  obtain ⟨k, z⟩ := z
                  exact r2.dA k Dp z (.inr (List.mem_cons_self ..))
                have keepTo : ∀ {o' : Ow} {H' : Hp}, Ext (inO o2) (inO o') H2 H' → (∀ a x, H1 a = some x → ¬ inO o1 a → H' a = some x) ∧ ∀ a, inO o' a → inO o1 a ∨ H1 a = none := fun {o' H'} xx =>
                  ⟨fun a x e n => xx.keep a x (keep2 a x e n) fun z => (new2 a z).elim n fun q => (by rw [e] at q; cases q), fun a z => by
                    rcases xx.new a z with z | z
                    · exact new2 a z
                    · cases q : H1 a with
                      | none => exact .inr rfl
                      | some y =>
                        refine .inl (Classical.byContradiction fun n => ?_)
                        rw [keep2 a y q n] at z
                        cases z⟩
                have reps5 : ∀ {o' : Ow} {H' : Hp}, Ext (inO o2) (inO o') H2 H' → Reps C (W2 (por A [Dp]) o') H' acc us [] := fun {o' H'} xx => ra2.to (fun a x e z => xx.keep a x e fun w => z.elim (fun z => z (.inr w)) fun z => nomatch z) fun a ⟨y, ey⟩ n z => by
                  rcases z with z | z
                  · exact n (.inl z)
                  · rcases xx.new a z with w | w
                    · exact n (.inr w)
                    · rw [ey] at w; cases w
                cases b with
                | false =>
                  rw [if_neg Bool.false_ne_true]
                  dsimp only at el2
                  obtain ⟨k1, k2⟩ := keepTo x5'
                  refine ⟨g4, o5, acc, us, r5.wiped hw4, ?_, fun j d hj e => ?_, x5'.keep _ _ hD2 nD, reps5 x5', k1, k2, el2⟩
                  · have h1 := r5.len
                    have h2 := r4.len
                    have h3 := put_len ep
                    rw [wipeG_len] at h3
                    omega
                  · obtain ⟨v, ev, q⟩ := r5.sl j d e
                    refine ⟨v, ?_, q⟩
                    rw [← wipe_at (σ := σ) hj, ← hw4, wipe_at hj]
                    exact ev
                | true =>
                  rw [if_pos rfl]
                  dsimp only at el2
                  refine ⟨[], por A [Dp], g4, o5, r5, ?_⟩
                  cases ee : me g4 with
                  | exc z g5 => rw [bind_exc ee] at el2; cases el2
                  | stuck => rw [bind_stuck ee] at el2; cases el2
                  | ok rv g5 =>
                    rw [bind_ok ee] at el2
                    intro v H6 o6 fr r6 x6 rr6
                    cases es : M.store rv g5 with
                    | exc z g6 => rw [es] at el2; cases el2
                    | stuck => rw [es] at el2; cases el2
                    | ok yd g6 =>
                      rw [es] at el2
                      dsimp only at el2
                      by_cases cl : acc.length < sizeLine
                      · rw [if_pos cl] at el2
                        -- the element is shared from here on
                        have st : ∃ o7, R C [] (por A [Dp]) H6 σ4 g6 o7 ∧ Ext (inO o6) (inO o7) H6 H6 ∧ Rep C (W2 (por A [Dp]) o7) H6 yd v [] := by
                          cases rv with
                          | ow d =>
                            cases es
                            obtain ⟨q1, q2⟩ := RVR.settle r6 rr6
                            exact ⟨o6, q1, .refl, q2.2⟩
                          | sh d =>
                            obtain ⟨rfl, q⟩ := rr6
                            rw [por_nil] at r6
                            exact store_ok r6 (rv := .sh d) ⟨rfl, q⟩ es
                          | pl j =>
                            obtain ⟨rfl, q⟩ := rr6
                            rw [por_nil] at r6
                            exact store_ok r6 (rv := .pl j) ⟨rfl, q⟩ es
                        obtain ⟨o7, r7, x7, p7⟩ := st
                        have x7' : Ext (inO o2) (inO o7) H2 H6 := (x5'.trans (x6.mono (F2 := inO o6) fun _ => .inl) r2.lo).trans x7 r2.lo
                        obtain ⟨k1, k2⟩ := keepTo x7'
                        have hA : por A [Dp] Dp := .inr (List.mem_cons_self ..)
                        have hD6 := x7'.keep _ _ hD2 nD
                        refine ⟨us, hD6, by rw [ra2.length]; exact cl, g6, o7, acc ++ [yd], us ++ [v], (r7.other hA).wiped hw4, ?_, fun j d hj e => ?_, upd_same, ?_, fun a x e n => ?_, k2, el2⟩
                        · have h1 := r7.len
                          have h2 := r4.len
                          have h3 := put_len ep
                          rw [wipeG_len] at h3
                          omega
                        · obtain ⟨w, ew, q⟩ := (r7.other (x := .lst (us ++ [v])) hA).sl j d e
                          refine ⟨w, ?_, q⟩
                          rw [← wipe_at (σ := σ) hj, ← hw4, wipe_at hj]
                          exact ew
                        · have := (reps5 x7').app (es := [yd]) (us := [v]) (g := []) (.sh_cons p7 ⟨rfl, rfl⟩)
                          rw [List.append_nil] at this
                          exact Reps.other this hA
                        · rw [upd_ne]
                          · exact k1 a x e n
                          · rintro rfl; rw [hDp] at e; cases e
                      · rw [if_neg cl] at el2; cases el2
          · left
            have hi' : i = ds.length := by omega
            refine ⟨wk2.1 (by omega), ?_⟩
            rw [List.drop_eq_nil_of_le (by omega)] at el2
            unfold lcL at el2
            cases el2
            -- the slots as they were
            have x12 : ∀ {d : D} {v : V}, Rep C (W2 A o1) H1 d v [] → Rep C (W2 (por A [Dp]) o2) H2 d v [] := fun {d v} q => q.to (fun a x e z => keep2 a x e fun w => z.elim (fun z => z (.inr w)) fun z => nomatch z) fun a ⟨y, ey⟩ n z => by
              rcases z with (z | z) | z
              · exact n (.inl z)
              · obtain rfl : a = Dp := by simpa using z
                rw [hDp] at ey; cases ey
              · rcases new2 a z with w | w
                · exact n (.inr w)
                · rw [ey] at w; cases w
            have sub3 : ∀ {a j}, a ∈ (if j ∈ vs then [] else o2 j) → a ∈ o2 j := fun {a j} z => by
              by_cases hj : j ∈ vs
              · rw [if_pos hj] at z; cases z
              · rw [if_neg hj] at z; exact z
            have subW : ∀ a, W2 (por A [Dp]) (fun j => if j ∈ vs then [] else o2 j) a → W2 (por A [Dp]) o2 a := fun a z => z.imp_right fun ⟨j, z⟩ => ⟨j, sub3 z⟩
            have rF : R C B (por A [Dp]) H2 σ (backG g1 gF vs) (fun j => if j ∈ vs then [] else o2 j) := by
              refine ⟨by rw [backG_len, hg2]; exact r1.len, fun j d e => ?_, fun j => ?_, fun j k a z1 z2 => r2.dj j k a (sub3 z1) (sub3 z2), fun j a z => r2.dA j a (sub3 z), fun j a z => r2.lv j a (sub3 z), r2.lA, r1.bd, fun p hp => (r2.xh p hp).to (fun _ _ e _ => e) fun a _ n z => n (subW a z)⟩
              · rcases backG_some e with ⟨hj, e⟩ | ⟨hj, e⟩
                · obtain ⟨v, ev, q⟩ := r1.sl j d e
                  have hnot : d.own = false := by
                    have := List.all_eq_true.mp en j hj
                    rw [e] at this
                    simpa using this
                  have := q.sh hnot
                  rw [this] at q
                  refine ⟨v, ev, ?_⟩
                  rw [show (if j ∈ vs then [] else o2 j) = ([] : List Addr) from if_pos hj]
                  exact (x12 q).less subW
                · obtain ⟨v, ev, q⟩ := sl2 j d hj e
                  refine ⟨v, ev, ?_⟩
                  rw [show (if j ∈ vs then [] else o2 j) = o2 j from if_neg hj]
                  exact q.less subW
              · by_cases hj : j ∈ vs
                · rw [if_pos hj]; exact List.nodup_nil
                · rw [if_neg hj]; exact r2.nd j
            refine po (.ref Dp) H2 _ [Dp] rF ⟨fun a x e n => ?_, fun a z => ?_⟩ ⟨by simp, fun a z => ?_, Dp, us, [], rfl, ?_, rfl, hD2, rfl⟩
            · have e' := x1.keep a x e n
              refine keep2 a x e' fun z => ?_
              rcases x1.new a z with z | z
              · exact n z
              · rw [e] at z; cases z
            · rcases z with ⟨j, z⟩ | z
              · rcases new2 a ⟨j, sub3 z⟩ with z | z
                · exact x1.new a z
                · cases q : H a with
                  | none => exact .inr rfl
                  | some y =>
                    refine .inl (Classical.byContradiction fun n => ?_)
                    rw [x1.keep a y q n] at z
                    cases z
              · obtain rfl : a = Dp := by simpa using z
                cases q : H a with
                | none => exact .inr rfl
                | some y =>
                  refine .inl (Classical.byContradiction fun n => ?_)
                  rw [x1.keep a y q n] at hDp
                  cases hDp
            · obtain rfl : a = Dp := by simpa using z
              refine ⟨fun q => ?_, fun ⟨j, q⟩ => r2.dA j a (sub3 q) (.inr z)⟩
              obtain ⟨y, ey⟩ := r1.lA a q
              rw [hDp] at ey; cases ey
            · exact ra2.to (fun _ _ e _ => e) fun a _ n z => n (subW a z)
end
end VL

set_option Elab.async false
set_option linter.all false
set_option maxRecDepth 100000
set_option maxHeartbeats 2000000
/-! From syntax to value programs: comprehensions, further statements. -/
namespace VL
open PySem PySem.Spec L2

section
variable {C : CMap} {Fx : Nat → Bool} {X : Cx}
/-! nothing is said -/
theorem ve_stuck {e : Expr} : VE C X e M.stuck := fun W tk => ⟨fun _ _ _ => False, ⟨fun _ _ _ _ _ _ h => h.elim⟩, fun B A σ H g o Q r po => po⟩
theorem vo_stuck {e : Expr} : VO C X e M.stuck := fun W tk => ⟨fun _ _ _ => False, ⟨fun _ _ _ _ _ _ h => h.elim⟩, fun B A σ H g o Q r po => po⟩
theorem vt_stuck {e : Expr} : VT C X e M.stuck := fun W tk => ⟨fun _ _ _ => False, ⟨fun _ _ _ _ _ _ h => h.elim⟩, fun B A σ H g o Q r po => po⟩
theorem vw_stuck {e : Expr} : VW C X e M.stuck := fun W tk => ⟨fun _ _ _ => False, ⟨fun _ _ _ _ _ _ _ h => h.elim⟩, fun B A σ H g o Q r po => po⟩
theorem va_stuck {es : List Expr} : VA C X es M.stuck := fun W tk => ⟨fun _ _ _ => False, ⟨fun _ _ _ _ _ _ _ h => h.elim⟩, fun B A σ H g o Q r po => po⟩
theorem vi_stuck {tg e : Expr} : VI C X tg e M.stuck := fun W tk => ⟨fun _ _ _ => False, ⟨fun _ _ _ _ _ _ h => h.elim⟩, fun B A σ H g o Q r po => po⟩
theorem vs_stuck {st : Stmt} : VS C Fx X st (fun _ => .stuck) := fun W tk => ⟨fun _ _ _ => False, ⟨fun _ _ _ _ _ _ h => h.elim⟩, fun B A σ H g o D hB r po => po⟩
/-! ### the comprehension -/
/-- its contexts -/
abbrev blkX (X : Cx) (scope : Scope) (p : Shared × Hp × Addr × List (Str × Addr) × List Addr) : Cx := X.blk p.1 p.2.1 scope (compEnvC scope p.2.2.2.1 p.2.2.1 X.env) p.2.2.2.2
instance ckBlk {C : CMap} {X : Cx} {scope : Scope} {p : Shared × Hp × Addr × List (Str × Addr) × List Addr} [h : CK C X.K] : CK C (blkX X scope p).K := h
variable [CK C X.K]
theorem v_lc_core {elt tg iter : Expr} {ifs : List Expr} {scope : Scope} {own : List (Str × Nat)} {pos : Pos} {mi : M (List D)} {mt : M Bool} {me : M RV} {t : Tgt} (hc : X.calm = true) (hN : X.N.Nodup) (hi : VI C X tg iter mi) (ok : BlkOk X.N X.env.scope scope own)
    (hvs : ∀ i ∈ t.slots, i ∈ own.map (·.2)) (hg : ∀ p, VG C Fx (blkX X scope p) tg t) (ht : (ifs = [] ∧ mt = M.pure true) ∨ ∃ c, ifs = [c] ∧ ∀ p, VT C (blkX X scope p) c mt) (he : ∀ p, VE C (blkX X scope p) elt me) :
    ∀ W : WX, Takes X W → ∃ (wi : TI) (tt : TT), PI X tg iter wi ∧ (∀ (s : Shared) (H : Hp) (D : Addr) (cl : List (Str × Addr)) (fp : List Addr), PG (X.blk s H scope (compEnvC scope cl D X.env) fp) tg (gV C Fx t)) ∧
      (∀ (s : Shared) (H : Hp) (D : Addr) (cl : List (Str × Addr)) (fp : List Addr), PTs (X.blk s H scope (compEnvC scope cl D X.env) fp) ifs tt) ∧ (∀ (s : Shared) (H : Hp) (D : Addr) (cl : List (Str × Addr)) (fp : List Addr), PE (X.blk s H scope (compEnvC scope cl D X.env) fp) elt (tV C W0 me)) ∧
      ∀ B A σ H g o Q, R C B A H σ g o → PostE C B A W σ o H Q (M.lc (Tgt.put Fx t) (own.map (·.2)) mi mt me g) → tLc wi (gV C Fx t) tt (tV C W0 me) (own.map (·.2)) σ H Q := fun W tk => by
  obtain ⟨wi, pi_, qi⟩ := hi W tk
  rcases ht with ⟨rfl, rfl⟩ | ⟨c, rfl, hc'⟩
  · refine ⟨wi, tYes, pi_, fun s H D cl fp => (hg (s, H, D, cl, fp)).can, fun s H D cl fp => pts_nil, fun s H D cl fp => (he (s, H, D, cl, fp)).can takes0, fun B A σ H g o Q r po => lc_reads hvs (fun B A σ H g o Q r po => ?_) qi r po⟩
    exact po H o r .refl
  · refine ⟨wi, tVT C W0 mt, pi_, fun s H D cl fp => (hg (s, H, D, cl, fp)).can, fun s H D cl fp => pts_one ((hc' (s, H, D, cl, fp)).can takes0), fun s H D cl fp => (he (s, H, D, cl, fp)).can takes0, fun B A σ H g o Q r po => lc_reads hvs (fun B A σ H g o Q r po => ⟨B, A, g, o, r, po⟩) qi r po⟩
theorem v_lc {elt tg iter : Expr} {ifs : List Expr} {scope : Scope} {own : List (Str × Nat)} {pos : Pos} {mi : M (List D)} {mt : M Bool} {me : M RV} {t : Tgt} (hc : X.calm = true) (hN : X.N.Nodup) (hi : VI C X tg iter mi) (ok : BlkOk X.N X.env.scope scope own)
    (hvs : ∀ i ∈ t.slots, i ∈ own.map (·.2)) (hg : ∀ p, VG C Fx (blkX X scope p) tg t) (ht : (ifs = [] ∧ mt = M.pure true) ∨ ∃ c, ifs = [c] ∧ ∀ p, VT C (blkX X scope p) c mt) (he : ∀ p, VE C (blkX X scope p) elt me) (hs : noSet iter = true) :
    VE C X (.ListComp elt [⟨tg, iter, ifs, 0⟩] scope pos) (M.lc (Tgt.put Fx t) (own.map (·.2)) mi mt me) := fun W tk => by
  obtain ⟨wi, tt, p1, p2, p3, p4, q⟩ := v_lc_core (pos := pos) hc hN hi ok hvs hg ht he W tk
  exact ⟨_, pe_lc hc hN p1 ok p2 p3 p4 (folded_plain hs), q⟩
/-- x = [..] -/
theorem vs_setLc {x : Str} {i : Nat} {kp : Bool} {py spos : Pos} {elt tg iter : Expr} {ifs : List Expr} {scope : Scope} {own : List (Str × Nat)} {pos : Pos} {mi : M (List D)} {mt : M Bool} {me : M RV} {t : Tgt} {Fx' : Nat → Bool} (hc : X.calm = true) (hN : X.N.Nodup) (hi : VI C X tg iter mi) (ok : BlkOk X.N X.env.scope scope own)
    (hvs : ∀ i ∈ t.slots, i ∈ own.map (·.2)) (hg : ∀ p, VG C Fx' (blkX X scope p) tg t) (ht : (ifs = [] ∧ mt = M.pure true) ∨ ∃ c, ifs = [c] ∧ ∀ p, VT C (blkX X scope p) c mt) (he : ∀ p, VE C (blkX X scope p) elt me) (hs : noSet iter = true)
    (hx : X.N[i]? = some x) (hl : Loc X.env.scope x) (hf : X.fn x = true ∨ X.env.scope.names.lookup x = some .local) :
    VS C Fx X (.Assign [.Name x py] (.ListComp elt [⟨tg, iter, ifs, 0⟩] scope pos) spos) (S.asg Fx kp i (M.lc (Tgt.put Fx' t) (own.map (·.2)) mi mt me)) := fun W tk => by
  obtain ⟨wi, tt, p1, p2, p3, p4, q⟩ := v_lc_core (pos := pos) hc hN hi ok hvs hg ht he W tk
  have fin : ∀ B A σ H g o D, BF Fx B → R C B A H σ g o → PostS C B A W o H D (S.asg Fx kp i (M.lc (Tgt.put Fx' t) (own.map (·.2)) mi mt me) g) → tAsg (tLc wi (gV C Fx' t) tt (tV C W0 me) (own.map (·.2))) (gName i) D σ H := fun B A σ H g o D hB r po => by
    refine q B A σ H g o _ r ?_
    unfold S.asg at po
    cases e1 : M.lc (Tgt.put Fx' t) (own.map (·.2)) mi mt me g with
    | ok rv g' => rw [e1] at po; exact fun v H' o' fr r' x' rr => put_ok hB r.lo x' r' rr po
    | exc x g' => rw [e1] at po; exact post_exc po
    | stuck => rw [e1] at po; exact po
  have sw : ∃ b : Bool, swapsWith (.ListComp elt [⟨tg, iter, ifs, 0⟩] scope pos) (some (.Name x py)) spos.line X.env = pure b ∧ (b = true → X.env.scope.names.lookup x = some .local) := by
    refine ⟨_, rfl, fun h => ?_⟩
    simp only [Bool.and_eq_true, beq_iff_eq] at h
    exact h.1.1.2
  obtain ⟨b, e, hb⟩ := sw
  cases b with
  | true => exact ⟨_, ps_setLc hc hN hx (hb rfl) e p1 ok p2 p3 p4 (folded_plain hs), fin⟩
  | false => exact ⟨_, ps_set hN hx hl (pe_lc hc hN p1 ok p2 p3 p4 (folded_plain hs)) e hf, fin⟩
/-! ### a, b = e -/
def noSeq : Expr → Bool
  | .Tuple .. => false
  | .List .. => false
  | _ => true
theorem vs_asgT {es : List Expr} {k : Nat} {tpos pos : Pos} {e : Expr} {m : M RV} {t : Tgt} (hc : noComp e = true) (hq : noSeq e = true) (h : VE C X e m) (ht : VG C Fx X (.Tuple es k tpos) t) : VS C Fx X (.Assign [.Tuple es k tpos] e pos) (S.asgT Fx t (M.opd m)) := fun W tk => by
  obtain ⟨te, p, q⟩ := h.opd W tk
  obtain ⟨gt, pt, qt⟩ := ht
  have h1 : swapsWithSole [.Tuple es k tpos] e pos.line X.env = pure false := by
    show swapsWith e (some (.Tuple es k tpos)) pos.line X.env = pure false
    exact swapsWith_plain hc
  have h2 : swappedStores [.Tuple es k tpos] e X.env = pure none := by
    cases e <;> first | rfl | cases hq
  refine ⟨_, ps_asg p pt h1 h2, fun B A σ H g o D hB r po => q B A σ H g o _ r ?_⟩
  unfold S.asgT at po
  cases e1 : M.opd m g with
  | exc x g1 => rw [bind_exc e1] at po; exact fun cls d H' o' r' x' ex => po cls d σ H' o' r' x' ex
  | stuck => rw [bind_stuck e1] at po; exact po
  | ok rv g1 =>
    rw [bind_ok e1] at po
    intro v H1 o1 r1 x1 rr
    cases e2 : M.store rv g1 with
    | exc x g2 => exact absurd e2 store_noexc
    | stuck => rw [e2] at po; exact po.elim
    | ok d g2 =>
      rw [e2] at po
      obtain ⟨o2, r2, x2, pd⟩ := store_ok r1 rr e2
      dsimp only at po
      cases e3 : Tgt.put Fx t d g2 with
      | none => rw [e3] at po; exact po.elim
      | some g3 =>
        rw [e3] at po
        exact qt B A σ H1 g2 o2 d v g3 _ hB r2 pd e3 fun σ' o' r' x' _ => po σ' H1 o' r' ((x1.trans x2 r.lo).trans x' r.lo)
/-! ### x op= e, of ints and texts -/
def vIAdd : D → D → Option RV
  | .int i, .int j => some (.sh (.int (i + j)))
  | .str a, .str b => if a.length + b.length ≤ sizeLine then some (.sh (.str (a ++ b))) else none
  | _, _ => none
theorem v2_iadd : V2 C X (inplaceOp .Add) vIAdd := by
  refine ⟨_, iop_add.or iop_add_str, fun B A σ H g o Q x y dx dy fx fy r hx hy po => ?_⟩
  unfold vIAdd at po
  split at po
  · obtain ⟨rfl, _⟩ := hx
    obtain ⟨rfl, _⟩ := hy
    exact .inl ⟨_, _, rfl, rfl, res_sh (v := .int _) r po ⟨rfl, rfl⟩⟩
  · split at po
    · rename_i c
      obtain ⟨rfl, _⟩ := hx
      obtain ⟨rfl, _⟩ := hy
      exact .inr ⟨_, _, rfl, rfl, c, res_sh (v := .str _) r po ⟨rfl, rfl⟩⟩
    · exact po.elim
  · exact po.elim
theorem v2_isub : V2 C X (inplaceOp .Sub) vSub := v2_int iop_sub (fun i j rv e => by cases e; exact ⟨_, _, rfl, fun _ _ _ => ⟨rfl, rfl⟩, fun H Q q => ⟨i, j, rfl, rfl, q⟩⟩) fun x y h => by
  cases x <;> cases y <;> first | rfl | exact absurd ⟨rfl, rfl⟩ (h _ _)
def S.aug (Fx : Nat → Bool) (i : Nat) (vf : D → D → Option RV) (m : M RV) : S := S.asg Fx false i (M.op2 vf (M.slot i) m)
theorem vs_aug {x : Str} {i : Nat} {op : Operator} {e : Expr} {m : M RV} {vf : D → D → Option RV} {pos pos' : Pos} (ho : V2 C X (inplaceOp op) vf) (hN : X.N.Nodup) (hi : X.N[i]? = some x) (hx : Loc X.env.scope x) (hf : X.fn x = true ∨ X.env.scope.names.lookup x = some .local) (h : VO C X e m) :
    VS C Fx X (.AugAssign (.Name x pos') op e pos) (S.aug Fx i vf m) := fun W tk => by
  obtain ⟨r2, o2, hh⟩ := ho
  obtain ⟨te, p, q⟩ := h W tk
  refine ⟨tAug i te r2, ps_aug hN hi hx p o2 hf, fun B A σ H g o D hB r po => ?_⟩
  unfold S.aug S.asg at po
  have main : PostE C B A W σ o H (fun z H2 => D.nx (σ.set i (some z)) H2) (M.op2 vf (M.slot i) m g) := by
    cases e1 : M.op2 vf (M.slot i) m g with
    | ok rv g' => rw [e1] at po; exact fun v H' o' fr r' x' rr => put_ok hB r.lo x' r' rr po
    | exc x g' => rw [e1] at po; exact post_exc po
    | stuck => rw [e1] at po; exact po
  have pt := post_two (f := inplaceOp op) hh r main
  unfold M.two at pt
  cases e0 : M.slot i g with
  | exc z g1 => exact absurd e0 slot_noexc
  | stuck => rw [bind_stuck e0] at pt; exact pt.elim
  | ok rv0 g1 =>
    rw [bind_ok e0] at pt
    have e0' := e0
    unfold M.slot at e0
    split at e0
    · rename_i d0 ed0
      obtain ⟨v0, ev0, q0⟩ := r.sl i d0 ed0
      refine ⟨v0, ev0, q B A σ H g o _ r ?_⟩
      have hrv : RVR C A o H σ g rv0 v0 [] ∧ g1 = g := by
        split at e0
        · cases e0; exact ⟨⟨rfl, ⟨d0, ed0⟩, ev0⟩, rfl⟩
        · rename_i hw
          cases e0
          have hw' : d0.own = false := by cases q : d0.own with | true => exact absurd q hw | false => rfl
          have := q0.sh hw'
          rw [this] at q0
          exact ⟨⟨rfl, q0⟩, rfl⟩
      obtain ⟨rr0, rfl⟩ := hrv
      cases e1 : m g1 with
      | exc z g2 => rw [bind_exc e1] at pt; exact pt
      | stuck => rw [bind_stuck e1] at pt; exact pt
      | ok y g2 =>
        rw [bind_ok e1] at pt
        intro w H2 o2' r2' x2 ry
        cases lv : rv0.live g2 with
        | false => rw [lv, if_neg Bool.false_ne_true] at pt; exact pt.elim
        | true =>
          rw [lv, if_pos rfl] at pt
          exact pt v0 w H2 o2' r2' x2 (rr0.stay2 r r2' x2 lv) ry
    · cases e0
/-! ### a op b op' c op'' d -/
end
end VL

set_option Elab.async false
set_option linter.all false
set_option maxRecDepth 100000
set_option maxHeartbeats 4000000
/-! a op b op c op d; calls of no argument. -/
namespace VL
open PySem PySem.Spec L2
def M.link (vf : D → D → Option RV) (y : RV) (mc : M RV) (k : RV → M RV) : M RV := M.bind mc fun z => fun g => if y.live g = true then (match y.at g, z.at g with
  | some a, some b => (match vf a b with
    | some (.sh (.bl true)) => k z g
    | some (.sh (.bl false)) => .ok (.sh (.bl false)) g
    | _ => .stuck)
  | _, _ => .stuck) else .stuck
def M.linkL (vf : D → D → Option RV) (y : RV) (mc : M RV) : M RV := M.bind mc fun z => fun g => if y.live g = true then M.at2 vf (y, z) g else .stuck
def M.chain3 (v1 v2 v3 : D → D → Option RV) (a b c d : M RV) : M RV := M.bind a fun x => M.link v1 x b fun y => M.link v2 y c fun z => M.linkL v3 z d
def tLink (r : R2) (y : V) (tc : TE) (k : V → TE) : TE := fun σ H Q => tc σ H fun z H1 => r y z H1 fun b H2 => ∃ q, b = .bl q ∧ (if q = true then k z σ H2 Q else Q (.bl false) H2)
def tLinkL (r : R2) (y : V) (tc : TE) : TE := fun σ H Q => tc σ H fun z H1 => r y z H1 Q
section
variable {C : CMap} {X : Cx}
theorem pe_chain3 {op1 op2 op3 : CmpOp} {r1 r2 r3 : R2} {a b c d : Expr} {ta tb tc td : TE} {pos : Pos} (h1 : OpR X (compareOp op1) r1) (h2 : OpR X (compareOp op2) r2) (h3 : OpR X (compareOp op3) r3) (ha : PE X a ta) (hb : PE X b tb) (hc : PE X c tc) (hd : PE X d td)
    (hm : lastMarks [op1, op2, op3] [b, c, d] = false) : PE X (.Compare a [op1, op2, op3] [b, c, d] pos) (fun σ H Q => ta σ H fun x H1 => tLink r1 x tb (fun y => tLink r2 y tc fun z => tLinkL r3 z td) σ H1 Q) := by
  refine ⟨fun pins s σ H Q I h => ?_⟩
  refine PyProof.Rows.Compare_chain (thn (ha.run pins s σ H _ I h) fun v s1 ⟨x, H1, I1, e1, q1⟩ => ?_) hm
  refine PyProof.Rows.chain_link (thn (hb.run pins s1 σ H1 _ I1 q1) fun u s2 ⟨y, H2, I2, e2, q2⟩ => thn (h1 pins s2 σ H2 x y v u _ I2 e1 e2 q2) fun k s3 ⟨z, H3, I3, e3, q, e, q3⟩ => ?_)
  subst e
  cases e3
  refine wpAny_truthy_bool ?_
  cases q with
  | false => exact PyProof.Rows.ite_ff ⟨.bl false, H3, I3, rfl, q3⟩
  | true =>
    refine PyProof.Rows.ite_tt (PyProof.Rows.chain_link (thn (hc.run pins s3 σ H3 _ I3 q3) fun u' s4 ⟨y', H4, I4, e4, q4⟩ => thn (h2 pins s4 σ H4 y y' u u' _ I4 e2 e4 q4) fun k s5 ⟨z, H5, I5, e5, q, e, q5⟩ => ?_))
    subst e
    cases e5
    refine wpAny_truthy_bool ?_
    cases q with
    | false => exact PyProof.Rows.ite_ff ⟨.bl false, H5, I5, rfl, q5⟩
    | true => exact PyProof.Rows.ite_tt (PyProof.Rows.chain_last (thn (hd.run pins s5 σ H5 _ I5 q5) fun w' s6 ⟨z', H6, I6, e6, q6⟩ => h3 pins s6 σ H6 y' z' u' w' Q I6 e4 e6 q6))
abbrev Gives (C : CMap) (vf : D → D → Option RV) (r2 : R2) : Prop := ∀ B A σ H g o Q x y dx dy fx fy, R C B A H σ g o → Rep C (W2 A o) H dx x fx → Rep C (W2 A o) H dy y fy → res C B A σ o H g Q (vf dx dy) → r2 x y H Q
abbrev Does (C : CMap) (W : WX) (m : M RV) (t : TE) : Prop := ∀ B A σ H g o Q, R C B A H σ g o → PostO C B A W σ o H Q (m g) → t σ H Q
theorem linkL_core {W : WX} {r : R2} {vf : D → D → Option RV} {mc : M RV} {tc : TE} (h : Gives C vf r) (q3 : Does C W mc tc) {B : List (Nat × V)} {A : AP} {σ : L2.St} {H : Hp} {g : G} {o : Ow} {Q : VK} {y : RV} {v : V} (r1 : R C B A H σ g o) (ry : RVR C A o H σ g y v [])
    (po : PostE C B A W σ o H Q (M.linkL vf y mc g)) : tLinkL r v tc σ H Q := by
  refine q3 B A σ H g o _ r1 ?_
  unfold M.linkL at po
  cases e3 : mc g with
  | exc z g3 => rw [bind_exc e3] at po; exact fun cls d H3 o3 r3 x3 => po cls d H3 o3 r3 x3
  | stuck => rw [bind_stuck e3] at po; exact po
  | ok z g3 =>
    rw [bind_ok e3] at po
    intro w3 H3 o3 r3 x3 rz
    cases l : y.live g3 with
    | false => rw [l, if_neg Bool.false_ne_true] at po; exact po.elim
    | true =>
      rw [l, if_pos rfl] at po
      have ry3 := ry.stay2 r1 r3 x3 l
      unfold M.at2 at po
      dsimp only at po
      cases fy3 : y.at g3 with
      | none => rw [fy3] at po; exact po.elim
      | some dy3 =>
        cases fz3 : z.at g3 with
        | none => rw [fy3, fz3] at po; exact po.elim
        | some dz3 =>
          rw [fy3, fz3] at po
          obtain ⟨f1, p1, _⟩ := ry3.rep r3 fy3
          obtain ⟨f2, p2, _⟩ := rz.rep r3 fz3
          refine h B A σ H3 g3 o3 Q v w3 dy3 dz3 f1 f2 r3 p1 p2 ?_
          dsimp only at po
          cases ew : vf dy3 dz3 with
          | none => rw [ew] at po; exact po.elim
          | some rv4 =>
            rw [ew] at po
            intro w4 H4 fr4 r4 x4 rr4
            exact po w4 H4 o3 fr4 r4 (x3.trans x4 r1.lo) rr4
theorem link_core {W : WX} {r : R2} {vf : D → D → Option RV} {mc : M RV} {tc : TE} {k : RV → M RV} {kt : V → TE} (h : Gives C vf r) (q3 : Does C W mc tc) {B : List (Nat × V)} {A : AP} {σ : L2.St}
    (hk : ∀ H g o Q z w, R C B A H σ g o → RVR C A o H σ g z w [] → PostE C B A W σ o H Q (k z g) → kt w σ H Q) {H : Hp} {g : G} {o : Ow} {Q : VK} {y : RV} {v : V} (r1 : R C B A H σ g o) (ry : RVR C A o H σ g y v [])
    (po : PostE C B A W σ o H Q (M.link vf y mc k g)) : tLink r v tc kt σ H Q := by
  refine q3 B A σ H g o _ r1 ?_
  unfold M.link at po
  cases e3 : mc g with
  | exc z g3 => rw [bind_exc e3] at po; exact fun cls d H3 o3 r3 x3 => po cls d H3 o3 r3 x3
  | stuck => rw [bind_stuck e3] at po; exact po
  | ok z g3 =>
    rw [bind_ok e3] at po
    intro w3 H3 o3 r3 x3 rz
    cases l : y.live g3 with
    | false => rw [l, if_neg Bool.false_ne_true] at po; exact po.elim
    | true =>
      rw [l, if_pos rfl] at po
      have ry3 := ry.stay2 r1 r3 x3 l
      cases fy3 : y.at g3 with
      | none => rw [fy3] at po; exact po.elim
      | some dy3 =>
        cases fz3 : z.at g3 with
        | none => rw [fy3, fz3] at po; exact po.elim
        | some dz3 =>
          rw [fy3, fz3] at po
          obtain ⟨f1, p1, _⟩ := ry3.rep r3 fy3
          obtain ⟨f2, p2, _⟩ := rz.rep r3 fz3
          refine h B A σ H3 g3 o3 _ v w3 dy3 dz3 f1 f2 r3 p1 p2 ?_
          dsimp only at po
          cases ew : vf dy3 dz3 with
          | none => rw [ew] at po; exact po.elim
          | some rv4 =>
            rw [ew] at po
            cases rv4 with
            | ow d => exact po.elim
            | pl i => exact po.elim
            | sh d =>
              cases d with
              | bl b =>
                intro w4 H4 fr4 r4 x4 rr4
                obtain ⟨rfl, rfl, _⟩ := rr4
                rw [por_nil] at r4
                have x4 : Ext (inO o3) (inO o3) H3 H4 := x4.mono fun _ => .inl
                refine ⟨b, rfl, ?_⟩
                cases b with
                | false =>
                  rw [if_neg Bool.false_ne_true]
                  exact ok_scal r4 (PostE.later r1 (x3.trans x4 r1.lo) po) ⟨rfl, rfl⟩
                | true =>
                  rw [if_pos rfl]
                  have rz4 : RVR C A o3 H4 σ g3 z w3 [] := by
                    cases z with
                    | sh d => exact ⟨rfl, Rep.stay r3 rz.2 x4 (fun _ _ => trivial) fun _ q => q⟩
                    | ow d =>
                      obtain ⟨n1, n2, n3⟩ := rz
                      refine ⟨n1, n2, ?_⟩
                      rw [por_nil] at n3 ⊢
                      exact Rep.stay r3 n3 x4 (fun _ _ => trivial) fun _ q => q
                    | pl i => exact rz
                  exact hk H4 g3 o3 Q z w3 r4 rz4 (PostE.later r1 (x3.trans x4 r1.lo) po)
              | _ => exact po.elim
theorem lastMarks3 {op1 op2 op3 : CmpOp} {b c d : Expr} (h : noSet d = true) : lastMarks [op1, op2, op3] [b, c, d] = false := by
  show lastMarks [op3] [d] = false
  exact nomark2 h
theorem v_chain3 {a b c d : Expr} {op1 op2 op3 : CmpOp} {ma mb mc md : M RV} {f1 f2 f3 : D → D → Option RV} {pos : Pos} (h1 : V2 C X (compareOp op1) f1) (h2 : V2 C X (compareOp op2) f2) (h3 : V2 C X (compareOp op3) f3)
    (ha : VO C X a ma) (hb : VO C X b mb) (hc : VO C X c mc) (hd : VO C X d md) (hn : noSet d = true) : VE C X (.Compare a [op1, op2, op3] [b, c, d] pos) (M.chain3 f1 f2 f3 ma mb mc md) := fun W tk => by
  obtain ⟨r1, o1, k1⟩ := h1
  obtain ⟨r2, o2, k2⟩ := h2
  obtain ⟨r3, o3, k3⟩ := h3
  obtain ⟨ta, pa, qa⟩ := ha W tk
  obtain ⟨tb, pb, qb⟩ := hb W tk
  obtain ⟨tc, pc, qc⟩ := hc W tk
  obtain ⟨td, pd, qd⟩ := hd W tk
  refine ⟨_, pe_chain3 o1 o2 o3 pa pb pc pd (lastMarks3 hn), fun B A σ H g o Q r po => qa B A σ H g o _ r ?_⟩
  unfold M.chain3 at po
  cases e1 : ma g with
  | exc x g1 => rw [bind_exc e1] at po; exact po
  | stuck => rw [bind_stuck e1] at po; exact po
  | ok x g1 =>
    rw [bind_ok e1] at po
    intro u H1 q1 s1 x1 rx
    exact link_core k1 qb (fun H2 g2 q2 Q2 y v s2 ry po2 => link_core k2 qc (fun H3 g3 q3 Q3 z w s3 rz po3 => linkL_core k3 qd s3 rz po3) s2 ry po2) s1 rx (PostE.later r x1 po)
theorem pe_call0SD {CX : CXT} {k : Nat} {f : Addr} {fd : FuncData} {ps : List Str} {sp : Sp} {dvs : List V} {ds : List Value} {E : L2.St → XK} {x : Str} {p pos : Pos} (F : FnOk X.prog X.w X.K X.mg X.base CX k f fd ps sp) (hr : Room k X.A) (hg : Gl X x) (hm : X.mg x = some (.ref f))
    (hk : PySem.W.keepIn X.K (.ref f) = true) (hb : Binds X.K fd ps ds) (hd : Vals dvs ds) (hx : ∀ σ, PassesAt CX X σ (E σ)) (hdb : (x == ("__debug__" : Str)) = false) : PE X (.Call (.Name x p) [] [] pos) (tCallSD sp dvs E tNil) :=
  ⟨fun pins s σ H Q I h => wpAny_Call_Name_kw (ld_glob I hg hm (PySem.W.callWith_K0 I.kIn hk (run_fnSD (us := []) (vs := []) F hr hb hd (hx σ) I .nil h)) hdb)⟩
theorem v_call0 {k n : Nat} {f : Addr} {fd : FuncData} {ps : List Str} {cf : List D → CO} {x : Str} {p pos : Pos} (F : FnOk X.prog X.w X.K X.mg X.base (L2.CX X.prog X.w) k f fd ps (spV C n cf)) (hn : ∀ ds, ds.length ≠ n → cf ds = .stuck) (hr : Room k X.A) (hg : Gl X x)
    (hm : X.mg x = some (.ref f)) (hk : PySem.W.keepIn X.K (.ref f) = true) (hb : Binds X.K fd ps []) (hdb : (x == ("__debug__" : Str)) = false) : VE C X (.Call (.Name x p) [] [] pos) (M.call cf (M.pure [])) := fun W tk => by
  refine ⟨_, pe_call0SD (dvs := []) F hr hg hm hk hb .nil (fun σ => passAt tk σ) hdb, fun B A σ H g o Q r po => ?_⟩
  show spV C n cf ([] ++ []) H Q (WE W σ)
  rw [List.append_nil]
  exact post_call hn r (show RVRs C A o H σ g [] [] from rfl) po
end
end VL

set_option Elab.async false
set_option linter.all false
set_option maxRecDepth 100000
set_option maxHeartbeats 4000000
/-! The value program of a piece of syntax, and that it is right. -/
namespace VL
open PySem PySem.Spec L2

/-- what a module's name stands for -/
inductive GV where
  | other | none | int (i : Int) | str (s : Str) | fn (n : Nat) (cf : List D → CO)
structure Kc where
  /-- the slots' names, parameters first -/
  N : List Str
  sc : Scope
  /-- the scope as it is written: whose names may be stored to -/
  scw : Scope
  np : Nat
  /-- the parameters that are stored to -/
  re : List Nat
  /-- the slots that hold own values -/
  kp : List Nat
  gl : Str → GV
def Kc.Fx (c : Kc) (i : Nat) : Bool := decide (i < c.np) && !c.re.contains i
/-- what an expression does: as a value, as a test, walked -/
structure Cd where
  e : M RV
  t : M Bool
  i : M (List D)
  /-- a slice's bounds; an attribute's object -/
  lo : M (Option Int) := M.stuck
  hi : M (Option Int) := M.stuck
  o : M RV := M.stuck
def Cd.of (m : M RV) : Cd := { e := m, t := M.stuck, i := M.iter (M.opd m) }
def Cd.val (m : M RV) : Cd := { e := m, t := M.toB m, i := M.iter (M.opd m) }
def Cd.no : Cd := { e := M.stuck, t := M.stuck, i := M.stuck }
def Cd.tst (m : M RV) (t : M Bool) : Cd := { e := m, t := t, i := M.stuck }
def Cd.itr (i : M (List D)) : Cd := { e := M.stuck, t := M.stuck, i := i }
def vOp : Operator → Option (D → D → Option RV)
  | .Add => some vAdd | .Sub => some vSub | .Mult => some vMul | .FloorDiv => some vFdiv | .Mod => some vMod | .Pow => some vPow
  | .LShift => some vShl | .RShift => some vShr | .BitAnd => some vAnd | .BitOr => some vOr | .BitXor => some vXor
  | _ => none
def vIOp : Operator → Option (D → D → Option RV)
  | .Add => some vIAdd | .Sub => some vSub
  | _ => none
def vCmp : CmpOp → D → D → Option RV
  | .Eq => vEq | .NotEq => vNe | .Lt => vLt | .LtE => vLe | .Gt => vGt | .GtE => vGe | .Is => vIs | .IsNot => vIsNot | .In => vIn | .NotIn => vNotIn
def okNm (x : Str) : Bool := !(x == ("__debug__" : Str)) && !(x == ("__classdict__" : Str)) && !(x == ("__name__" : Str))
def tyNames : List Str := ["int", "str", "bool", "list", "tuple", "dict"]
def tyOf (x : Str) : Option String :=
  if x = ("int" : Str) then some "int" else if x = ("str" : Str) then some "str" else if x = ("bool" : Str) then some "bool" else if x = ("list" : Str) then some "list" else if x = ("tuple" : Str) then some "tuple" else if x = ("dict" : Str) then some "dict" else none
/-- the slot of a name that is seen here -/
def Kc.slot (c : Kc) (x : Str) : Option Nat := if okNm x = true then (match c.sc.names.lookup x with
  | some .local => c.N.idxOf? x
  | some .cell => c.N.idxOf? x
  | some .free => c.N.idxOf? x
  | _ => none) else none
/-- .. of one that is the block's own -/
def Kc.own (c : Kc) (x : Str) : Option Nat := if okNm x = true then (match c.sc.names.lookup x, c.scw.names.lookup x with
  | some .local, _ => c.N.idxOf? x
  | some .cell, some .cell => c.N.idxOf? x
  | _, _ => none) else none
def Kc.isGl (c : Kc) (x : Str) : Bool := okNm x && decide (c.sc.names.lookup x = some .globalImplicit)
def nameE (c : Kc) (x : Str) : M RV := match c.slot x with
  | some i => M.slot i
  | none => if c.isGl x = true then (match c.gl x with
    | .int i => M.pure (.sh (.int i))
    | .str s => M.pure (.sh (.str s))
    | .none => (match tyOf x with | some n => M.pure (.sh (.ty n)) | none => M.stuck)
    | _ => M.stuck) else M.stuck
def consts : Const → M RV
  | .int i => M.pure (.sh (.int i))
  | .bool b => M.pure (.sh (.bl b))
  | .none => M.pure (.sh .non)
  | .str s => M.pure (.sh (.str s))
  | _ => M.stuck
def argsM : List Cd → M (List RV)
  | [] => M.pure []
  | d :: ds => M.cons (M.opd d.e) (argsM ds)
def andE : List Cd → M RV
  | [] => M.stuck
  | [d] => d.e
  | d :: ds => M.andE d.e (andE ds)
def orE : List Cd → M RV
  | [] => M.stuck
  | [d] => d.e
  | d :: ds => M.orE d.e (orE ds)
def andT : List Cd → M Bool
  | [] => M.stuck
  | [d] => d.t
  | d :: ds => M.andB d.t (andT ds)
def orT : List Cd → M Bool
  | [] => M.stuck
  | [d] => d.t
  | d :: ds => M.orB d.t (orT ds)
/-- a built-in function or type called -/
def fnB (x : Str) : Option (List D → Option RV) :=
  if x = ("len" : Str) then some vLen else if x = ("isinstance" : Str) then some vIsi else if x = ("max" : Str) then some vMax else if x = ("min" : Str) then some vMin
  else if x = ("list" : Str) then some vList else if x = ("tuple" : Str) then some vTuple else if x = ("int" : Str) then some vInt else if x = ("str" : Str) then some vStr else none
/-- a method of an own list -/
def lmB (m : Str) (n : Nat) : Option (List D → List D → Option (D × List D)) :=
  if m = ("append" : Str) ∧ n = 1 then some lAppend else if m = ("pop" : Str) ∧ n = 0 then some lPop else if m = ("pop" : Str) ∧ n = 1 then some lPopAt else if m = ("insert" : Str) ∧ n = 2 then some lInsert
  else if m = ("clear" : Str) ∧ n = 0 then some lClear else if m = ("extend" : Str) ∧ n = 1 then some lExtend else none
mutual
def tgt : Expr → Kc → Option Tgt
  | .Name x _, c => (c.own x).map .slot
  | .Tuple es _ _, c => if allPlain es = true then (tgts es c).map .tup else none
  | _, _ => none
def tgts : List Expr → Kc → Option (List Tgt)
  | [], _ => some []
  | e :: es, c => match tgt e c, tgts es c with
    | some t, some ts => some (t :: ts)
    | _, _ => none
end
/-- the slots of a comprehension's own names -/
def ownOf (N : List Str) (scope : Scope) : List (Str × Nat) := scope.names.filterMap fun p => if p.2 = .local ∨ p.2 = .cell then (N.idxOf? p.1).map fun i => (p.1, i) else none
/-- the comprehension's context -/
def relS (scope sc : Scope) : Scope := { scope with names := scope.names.map fun (n, k) => if (k == NameKind.free && sc.kind == .function && sc.names.lookup n == some .cell) then (n, .cell) else (n, k) }
def Kc.blk (c : Kc) (scope : Scope) : Kc := { c with sc := relS scope c.sc, scw := scope, np := 0 }
def subList (l r : List Nat) : Bool := l.all fun i => r.contains i
/-- a comprehension of these parts -/
def lcOf (c : Kc) (scope : Scope) (k : Int) (it : Expr) (t : Option Tgt) (mi : M (List D)) (ds : List Cd) (me : M RV) : M RV := if k = 0 ∧ noSet it = true ∧ blkC c.N c.sc scope (ownOf c.N scope) = true then (match t, ds with
  | some t, [] => if subList t.slots ((ownOf c.N scope).map (·.2)) = true then M.lc (Tgt.put (c.blk scope).Fx t) ((ownOf c.N scope).map (·.2)) mi (M.pure true) me else M.stuck
  | some t, [d] => if subList t.slots ((ownOf c.N scope).map (·.2)) = true then M.lc (Tgt.put (c.blk scope).Fx t) ((ownOf c.N scope).map (·.2)) mi d.t me else M.stuck
  | _, _ => M.stuck) else M.stuck
def subOf (b : Expr) (ma : M RV) (db : Cd) : M RV := match b with
  | .Slice none none (some (.UnaryOp .USub (.Constant (.int 1) _ _) _)) _ => M.rev (M.opd ma)
  | .Slice _ _ none _ => M.sl (M.opd ma) db.lo db.hi
  | _ => if noSlice b = true then M.op2 vIx (M.opd ma) (M.opd db.e) else M.stuck
def rngOf : List Cd → M (List D)
  | [a] => M.rng1 (M.opd a.e)
  | [a, b] => M.rng2 (M.opd a.e) (M.opd b.e)
  | _ => M.stuck
def callOf (c : Kc) (x : Str) (args : List Expr) (ds : List Cd) : Cd := if allPlain args = true ∧ c.isGl x = true then (match c.gl x with
  | .fn _ cf => Cd.val (M.call cf (argsM ds))
  | .none => if args = [] then Cd.no else (match fnB x with
    | some vf => Cd.val (M.fn vf (argsM ds))
    | none => if x = ("range" : Str) then Cd.itr (rngOf ds) else Cd.no)
  | _ => Cd.no) else Cd.no
def methOf (c : Kc) (o : Expr) (m : Str) (ap cp : Pos) (args : List Expr) (ds : List Cd) (mo : M RV) : M RV := if allPlain args = true ∧ args.length < 30 ∧ (ap.endLine == cp.line) = true then (match o, lmB m args.length with
  | .Name x _, some mf => (match c.slot x with | some i => M.lmt i mf (argsM ds) | none => M.stuck)
  | _, _ => if noSuper o = true ∧ m = ("upper" : Str) ∧ args = [] then M.meth mUpper "str" (M.opd mo) (M.pure []) else M.stuck) else M.stuck
mutual
def cB : Expr → Kc → Cd
  | .Name x _, c => Cd.val (nameE c x)
  | .Constant k _ _, _ => Cd.val (consts k)
  | .BinOp a op b _, c => Cd.of (match vOp op with
    | some vf => M.op2 vf (M.opd (cB a c).e) (M.opd (cB b c).e)
    | none => M.stuck)
  | .UnaryOp .Not a _, c => Cd.tst (M.ofB (M.notB (M.toB (cB a c).e))) (M.notB (cB a c).t)
  | .UnaryOp .USub a _, c => Cd.of (M.neg (M.opd (cB a c).e))
  | .BoolOp .And vs _, c => Cd.tst (andE (cBs vs c)) (andT (cBs vs c))
  | .BoolOp .Or vs _, c => Cd.tst (orE (cBs vs c)) (orT (cBs vs c))
  | .Compare a [op] [b] _, c => if noSet b = true then Cd.tst (M.op2 (vCmp op) (M.opd (cB a c).e) (M.opd (cB b c).e)) (M.toB (M.op2 (vCmp op) (M.opd (cB a c).e) (M.opd (cB b c).e))) else Cd.no
  | .Compare a [op, op', op2] [b, d, f] _, c => if noSet f = true then Cd.tst (M.chain3 (vCmp op) (vCmp op') (vCmp op2) (M.opd (cB a c).e) (M.opd (cB b c).e) (M.opd (cB d c).e) (M.opd (cB f c).e)) M.stuck else Cd.no
  | .Compare a [op, op'] [b, d] _, c => if noSet d = true then Cd.tst (M.chain (vCmp op) (vCmp op') (M.opd (cB a c).e) (M.opd (cB b c).e) (M.opd (cB d c).e)) (M.toB (M.chain (vCmp op) (vCmp op') (M.opd (cB a c).e) (M.opd (cB b c).e) (M.opd (cB d c).e))) else Cd.no
  | .IfExp t a b _, c => Cd.of (M.ite (cB t c).t (cB a c).e (cB b c).e)
  | .List es _, c => Cd.of (if allPlain es = true then M.list (argsM (cBs es c)) else M.stuck)
  | .Tuple es _ _, c => Cd.of (if allPlain es = true then M.tuple (argsM (cBs es c)) else M.stuck)
  | .Slice lo hi _ _, c => { e := M.stuck, t := M.stuck, i := M.stuck, lo := cP lo c, hi := cP hi c }
  | .Attribute o _ _, c => { e := M.stuck, t := M.stuck, i := M.stuck, o := (cB o c).e }
  | .Subscript a b _, c => Cd.val (subOf b (cB a c).e (cB b c))
  | .Call f args [] cp, c => (match f with
    | .Name x _ => callOf c x args (cBs args c)
    | .Attribute o m ap => Cd.val (methOf c o m ap cp args (cBs args c) (cB f c).o)
    | _ => Cd.no)
  | .ListComp elt [g] scope _, c => Cd.of (cG g (cB elt (c.blk scope)).e scope c)
  | _, _ => Cd.no
def cBs : List Expr → Kc → List Cd
  | [], _ => []
  | e :: es, c => cB e c :: cBs es c
def cP : Option Expr → Kc → M (Option Int)
  | none, _ => M.pure none
  | some e, c => M.part (M.opd (cB e c).e)
def cG : Comprehension → M RV → Scope → Kc → M RV
  | ⟨tg, it, ifs, k⟩, me, scope, c => lcOf c scope k it (tgt tg (c.blk scope)) (cB it c).i (cBs ifs (c.blk scope)) me
end
/-! ### it is right -/
def GlOk (C : CMap) (X : Cx) (x : Str) : GV → Prop
  | .other => True
  | .none => X.mg x = none
  | .int i => ∃ u, X.mg x = some (.int i u)
  | .str s => ∃ u, X.mg x = some (.str s u)
  | .fn n cf => ∃ k f fd ps, FnOk X.prog X.w X.K X.mg X.base (L2.CX X.prog X.w) k f fd ps (spV C n cf) ∧ (∀ ds, ds.length ≠ n → cf ds = .stuck) ∧ Room k X.A ∧ X.mg x = some (.ref f) ∧ PySem.W.keepIn X.K (.ref f) = true ∧ Binds X.K fd ps []
/-- the context c tells X rightly -/
structure Fit (C : CMap) (c : Kc) (X : Cx) : Prop where
  N : X.N = c.N
  nd : c.N.Nodup
  sc : X.env.scope = c.sc
  calm : X.calm = true
  ck : CK C X.K
  po : PassesOwn (model X.prog X.w) X.A X.env X.xe
  un : X.A.units + 65 < cLine
  fn : ∀ x, c.scw.names.lookup x = some .cell → X.fn x = true
  gl : ∀ x, GlOk C X x (c.gl x)
theorem Fit.blk {C : CMap} {c : Kc} {X : Cx} (h : Fit C c X) (scope : Scope) (p : Shared × Hp × Addr × List (Str × Addr) × List Addr) : Fit C (c.blk scope) (blkX X scope p) where
  N := h.N
  nd := h.nd
  sc := by
    show relabel scope X.env = relS scope c.sc
    rw [← h.sc]
    rfl
  calm := h.calm
  ck := h.ck
  po := PassesOwn.never
  un := h.un
  fn x e := by
    show (scope.names.lookup x == some .cell) = true
    rw [show scope.names.lookup x = some .cell from e]
    rfl
  gl x := by
    have := h.gl x
    show GlOk C (blkX X scope p) x (c.gl x)
    cases q : c.gl x with
    | _ => rw [q] at this; exact this
section
variable {C : CMap} {c : Kc} {X : Cx}
theorem idx_at {N : List Str} {x : Str} {i : Nat} (e : N.idxOf? x = some i) : N[i]? = some x := by
  obtain ⟨hl, h, _⟩ := List.findIdx?_eq_some_iff_getElem.mp (show N.findIdx? (· == x) = some i from e)
  rw [List.getElem?_eq_getElem hl]
  simpa using h
theorem okNm_of {x : Str} (h : okNm x = true) : (x == ("__debug__" : Str)) = false ∧ (x == ("__classdict__" : Str)) = false ∧ x ≠ ("__name__" : Str) := by
  unfold okNm at h
  simp only [Bool.and_eq_true, Bool.not_eq_true'] at h
  exact ⟨h.1.1, h.1.2, by simpa using h.2⟩
theorem slot_of (h : Fit C c X) {x : Str} {i : Nat} (e : c.slot x = some i) : X.N[i]? = some x ∧ Vis X.env.scope x ∧ (x == ("__debug__" : Str)) = false ∧ (x == ("__classdict__" : Str)) = false := by
  unfold Kc.slot at e
  split at e
  · rename_i hk
    obtain ⟨k1, k2, _⟩ := okNm_of hk
    rw [h.N, h.sc]
    split at e
    · rename_i q; exact ⟨idx_at e, .inl q, k1, k2⟩
    · rename_i q; exact ⟨idx_at e, .inr (.inl q), k1, k2⟩
    · rename_i q; exact ⟨idx_at e, .inr (.inr q), k1, k2⟩
    · cases e
  · cases e
theorem own_of (h : Fit C c X) {x : Str} {i : Nat} (e : c.own x = some i) : X.N[i]? = some x ∧ Loc X.env.scope x ∧ (X.fn x = true ∨ X.env.scope.names.lookup x = some .local) := by
  unfold Kc.own at e
  split at e
  · rw [h.N, h.sc]
    split at e
    · rename_i q; exact ⟨idx_at e, .inl q, .inr q⟩
    · rename_i q q2; exact ⟨idx_at e, .inr q, .inl (h.fn x q2)⟩
    · cases e
  · cases e
theorem isGl_of (h : Fit C c X) {x : Str} (e : c.isGl x = true) : Gl X x ∧ (x == ("__debug__" : Str)) = false ∧ x ≠ ("__name__" : Str) := by
  unfold Kc.isGl at e
  obtain ⟨e1, e2⟩ := Bool.and_eq_true_iff.mp e
  obtain ⟨k1, _, k3⟩ := okNm_of e1
  refine ⟨?_, k1, k3⟩
  show X.env.scope.names.lookup x = some .globalImplicit
  rw [h.sc]
  exact of_decide_eq_true e2
theorem tyOf_boot {x : Str} {n : String} (h : tyOf x = some n) : bootBuiltins x = some (.type n) := by
  unfold tyOf at h
  split at h
  · rename_i q; subst q; cases h; decide +kernel
  · split at h
    · rename_i q; subst q; cases h; decide +kernel
    · split at h
      · rename_i q; subst q; cases h; decide +kernel
      · split at h
        · rename_i q; subst q; cases h; decide +kernel
        · split at h
          · rename_i q; subst q; cases h; decide +kernel
          · split at h
            · rename_i q; subst q; cases h; decide +kernel
            · cases h
theorem nameE_ok (h : Fit C c X) {x : Str} {pos : Pos} : VE C X (.Name x pos) (nameE c x) := by
  unfold nameE
  cases e : c.slot x with
  | some i =>
    obtain ⟨h1, h2, h3, h4⟩ := slot_of h e
    exact v_slot h1 h2 h3 h4
  | none =>
    dsimp only
    split
    · rename_i hg
      obtain ⟨g1, g2, g3⟩ := isGl_of h hg
      have := h.gl x
      cases q : c.gl x with
      | other => exact ve_stuck
      | int i => rw [q] at this; obtain ⟨u, hu⟩ := this; exact v_globI g1 hu g2
      | str s => rw [q] at this; obtain ⟨u, hu⟩ := this; exact v_globS g1 hu g2
      | fn n cf => exact ve_stuck
      | none =>
        rw [q] at this
        dsimp only
        cases ht : tyOf x with
        | none => exact ve_stuck
        | some n => exact v_tC (pe_bltn (v := .ty n) g1 this (tyOf_boot ht) rfl g3 g2) fun _ _ => ⟨rfl, rfl⟩
    · exact ve_stuck
theorem vOp_ok [CK C X.K] {op : Operator} {vf : D → D → Option RV} (h : vOp op = some vf) : V2 C X (binaryOp op) vf := by
  cases op <;> cases h
  · exact v2_add
  · exact v2_sub
  · exact v2_mul
  · exact v2_mod
  · exact v2_pow
  · exact v2_shl
  · exact v2_shr
  · exact v2_or
  · exact v2_xor
  · exact v2_and
  · exact v2_fdiv
theorem vIOp_ok [CK C X.K] {op : Operator} {vf : D → D → Option RV} (h : vIOp op = some vf) : V2 C X (inplaceOp op) vf := by
  cases op <;> cases h
  · exact v2_iadd
  · exact v2_isub
theorem vCmp_ok (h : Fit C c X) (op : CmpOp) : V2 C X (compareOp op) (vCmp op) := by
  haveI := h.ck
  have u1 : X.A.units + 64 < cLine := Nat.lt_of_succ_lt h.un
  cases op with
  | Eq => exact v2_eq u1
  | NotEq => exact v2_ne u1
  | Lt => exact v2_lt
  | LtE => exact v2_le
  | Gt => exact v2_gt
  | GtE => exact v2_ge
  | Is => exact v2_is
  | IsNot => exact v2_isNot
  | In => exact v2_in h.un
  | NotIn => exact v2_notIn h.un
/-- what is shown of an expression -/
def SlOk (C : CMap) (X : Cx) (e : Expr) (d : Cd) : Prop := match e with
  | .Slice lo hi none _ => VP C X lo d.lo ∧ VP C X hi d.hi
  | .Attribute o _ _ => VE C X o d.o
  | _ => True
structure Good (C : CMap) (X : Cx) (x : Expr) (d : Cd) : Prop where
  e : VE C X x d.e
  t : VT C X x d.t
  i : ∀ tg, VI C X tg x d.i
  s : SlOk C X x d
def noParts : Expr → Bool
  | .Slice .. => false
  | .Attribute .. => false
  | _ => true
theorem slOk_of {C : CMap} {X : Cx} {e : Expr} {d : Cd} (h : noParts e = true) : SlOk C X e d := by
  cases e <;> first | trivial | cases h
def Goods (C : CMap) (X : Cx) : List Expr → List Cd → Prop
  | [], [] => True
  | e :: es, d :: ds => Good C X e d ∧ Goods C X es ds
  | _, _ => False
theorem good_no {e : Expr} (h : noParts e = true) : Good C X e Cd.no := ⟨ve_stuck, vt_stuck, fun _ => vi_stuck, slOk_of h⟩
theorem good_of [CK C X.K] {e : Expr} {m : M RV} (h : VE C X e m) (p : noParts e = true) : Good C X e (Cd.of m) := ⟨h, vt_stuck, fun _ => vi_val h.opd, slOk_of p⟩
theorem good_val [CK C X.K] {e : Expr} {m : M RV} (h : VE C X e m) (p : plainT e = true) (q : noParts e = true) : Good C X e (Cd.val m) := ⟨h, vt_val h p, fun _ => vi_val h.opd, slOk_of q⟩
theorem args_ok : ∀ {es : List Expr} {ds : List Cd}, Goods C X es ds → allPlain es = true → VA C X es (argsM ds)
  | [], [], _, _ => va_nil
  | e :: es, d :: ds, h, p => by
    obtain ⟨p1, p2⟩ := Bool.and_eq_true_iff.mp p
    exact va_cons h.1.e.opd (args_ok h.2 p2) p1
  | [], _ :: _, h, _ => h.elim
  | _ :: _, [], h, _ => h.elim
theorem and_ok {pos : Pos} : ∀ {es : List Expr} {ds : List Cd}, Goods C X es ds → VE C X (.BoolOp .And es pos) (andE ds) ∧ VW C X (.BoolOp .And es pos) (andT ds)
  | [], [], _ => ⟨ve_stuck, vw_stuck⟩
  | [e], [d], h => ⟨v_one h.1.e, vw_one h.1.t⟩
  | e :: e2 :: es, d :: d2 :: ds, h => by
    obtain ⟨q1, q2⟩ := and_ok (pos := pos) h.2
    exact ⟨v_and h.1.e q1, vw_and h.1.t q2⟩
  | [], _ :: _, h => h.elim
  | _ :: _, [], h => h.elim
  | [_], _ :: _ :: _, h => h.2.elim
  | _ :: _ :: _, [_], h => h.2.elim
theorem or_ok {pos : Pos} : ∀ {es : List Expr} {ds : List Cd}, Goods C X es ds → VE C X (.BoolOp .Or es pos) (orE ds) ∧ VW C X (.BoolOp .Or es pos) (orT ds)
  | [], [], _ => ⟨ve_stuck, vw_stuck⟩
  | [e], [d], h => ⟨v_one h.1.e, vw_one h.1.t⟩
  | e :: e2 :: es, d :: d2 :: ds, h => by
    obtain ⟨q1, q2⟩ := or_ok (pos := pos) h.2
    exact ⟨v_or h.1.e q1, vw_or h.1.t q2⟩
  | [], _ :: _, h => h.elim
  | _ :: _, [], h => h.elim
  | [_], _ :: _ :: _, h => h.2.elim
  | _ :: _ :: _, [_], h => h.2.elim
theorem subList_of {l r : List Nat} (h : subList l r = true) : ∀ i ∈ l, i ∈ r := fun i hi => by
  have := List.all_eq_true.mp h i hi
  simpa using this
mutual
theorem tgt_ok : ∀ {e : Expr} {c : Kc} {X : Cx} {t : Tgt} {Fx : Nat → Bool}, Fit C c X → tgt e c = some t → VG C Fx X e t
  | .Name x p, c, X, t, Fx, h, e => by
    unfold tgt at e
    cases q : c.own x with
    | none => rw [q] at e; cases e
    | some i =>
      rw [q] at e
      cases e
      obtain ⟨h1, h2, h3⟩ := own_of h q
      exact vg_name (by rw [h.N]; exact h.nd) h1 h2 h3
  | .Tuple es k p, c, X, t, Fx, h, e => by
    unfold tgt at e
    split at e
    · rename_i hp
      cases q : tgts es c with
      | none => rw [q] at e; cases e
      | some ts =>
        rw [q] at e
        cases e
        obtain ⟨g, hl⟩ := tgts_ok (Fx := Fx) h q hp
        haveI := h.ck
        exact vg_tup h.calm g hp hl
    · cases e
  | .BoolOp .., _, _, _, _, _, e => by unfold tgt at e; cases e
  | .NamedExpr .., _, _, _, _, _, e => by unfold tgt at e; cases e
  | .BinOp .., _, _, _, _, _, e => by unfold tgt at e; cases e
  | .UnaryOp .., _, _, _, _, _, e => by unfold tgt at e; cases e
  | .Lambda .., _, _, _, _, _, e => by unfold tgt at e; cases e
  | .IfExp .., _, _, _, _, _, e => by unfold tgt at e; cases e
  | .Dict .., _, _, _, _, _, e => by unfold tgt at e; cases e
  | .Set .., _, _, _, _, _, e => by unfold tgt at e; cases e
  | .ListComp .., _, _, _, _, _, e => by unfold tgt at e; cases e
  | .SetComp .., _, _, _, _, _, e => by unfold tgt at e; cases e
  | .DictComp .., _, _, _, _, _, e => by unfold tgt at e; cases e
  | .GeneratorExp .., _, _, _, _, _, e => by unfold tgt at e; cases e
  | .Await .., _, _, _, _, _, e => by unfold tgt at e; cases e
  | .Yield .., _, _, _, _, _, e => by unfold tgt at e; cases e
  | .YieldFrom .., _, _, _, _, _, e => by unfold tgt at e; cases e
  | .Compare .., _, _, _, _, _, e => by unfold tgt at e; cases e
  | .Call .., _, _, _, _, _, e => by unfold tgt at e; cases e
  | .FormattedValue .., _, _, _, _, _, e => by unfold tgt at e; cases e
  | .JoinedStr .., _, _, _, _, _, e => by unfold tgt at e; cases e
  | .Constant .., _, _, _, _, _, e => by unfold tgt at e; cases e
  | .Attribute .., _, _, _, _, _, e => by unfold tgt at e; cases e
  | .Subscript .., _, _, _, _, _, e => by unfold tgt at e; cases e
  | .Starred .., _, _, _, _, _, e => by unfold tgt at e; cases e
  | .List .., _, _, _, _, _, e => by unfold tgt at e; cases e
  | .Slice .., _, _, _, _, _, e => by unfold tgt at e; cases e
theorem tgts_ok : ∀ {es : List Expr} {c : Kc} {X : Cx} {ts : List Tgt} {Fx : Nat → Bool}, Fit C c X → tgts es c = some ts → allPlain es = true → VGs C Fx X es ts ∧ es.length = ts.length
  | [], c, X, ts, Fx, h, e, _ => by unfold tgts at e; cases e; exact ⟨vgs_nil, rfl⟩
  | e :: es, c, X, ts, Fx, h, q, p => by
    obtain ⟨p1, p2⟩ := Bool.and_eq_true_iff.mp p
    unfold tgts at q
    cases q1 : tgt e c with
    | none => rw [q1] at q; cases q
    | some t =>
      cases q2 : tgts es c with
      | none => rw [q1, q2] at q; cases q
      | some us =>
        rw [q1, q2] at q
        cases q
        obtain ⟨g, hl⟩ := tgts_ok (Fx := Fx) h q2 p2
        exact ⟨vgs_cons (tgt_ok h q1) g p1, congrArg (· + 1) hl⟩
end
end
end VL

set_option Elab.async false
set_option linter.all false
set_option maxRecDepth 100000
set_option maxHeartbeats 4000000
/-! Expressions: the value program is right. -/
namespace VL
open PySem PySem.Spec L2

section
variable {C : CMap}
theorem consts_ok {X : Cx} {k : Const} {j : Nat} {pos : Pos} : VE C X (.Constant k j pos) (consts k) := by
  cases k with
  | int i => exact v_int
  | bool b => exact v_bl
  | none => exact v_non
  | str s => exact v_str
  | _ => exact ve_stuck
theorem plainIx_of {b : Expr} (h : noSlice b = true) : PlainIx b := fun o i => by
  cases b <;> first | rfl | cases h
theorem fnB_ok {c : Kc} {X : Cx} (h : Fit C c X) {x : Str} {vf : List D → Option RV} (hx : fnB x = some vf) (hm : X.mg x = none) (hg : Gl X x) (hdb : (x == ("__debug__" : Str)) = false) (hn : x ≠ ("__name__" : Str)) {args : List Expr} {m : M (List RV)} {p pos : Pos} (ha : VA C X args m) (hp : allPlain args = true) (hne : args ≠ []) :
    VE C X (.Call (.Name x p) args [] pos) (M.fn vf m) := by
  haveI := h.ck
  cases args with
  | nil => exact absurd rfl hne
  | cons e es =>
    unfold fnB at hx
    split at hx
    · rename_i q; subst q; cases hx; exact v_fnB vf_len hg hm boot_len ha hn hdb hp
    · split at hx
      · rename_i q; subst q; cases hx; exact v_fnB vf_isi hg hm (by decide +kernel) ha hn hdb hp
      · split at hx
        · rename_i q; subst q; cases hx; exact v_fnB (vf_max h.calm) hg hm (by decide +kernel) ha hn hdb hp
        · split at hx
          · rename_i q; subst q; cases hx; exact v_fnB (vf_min h.calm) hg hm (by decide +kernel) ha hn hdb hp
          · split at hx
            · rename_i q; subst q; cases hx; exact v_fnT (vf_list h.calm) hg hm (by decide +kernel) ha hn hdb hp
            · split at hx
              · rename_i q; subst q; cases hx; exact v_fnT vf_tuple hg hm (by decide +kernel) ha hn hdb hp
              · split at hx
                · rename_i q; subst q; cases hx; exact v_fnT vf_int hg hm (by decide +kernel) ha hn hdb hp
                · split at hx
                  · rename_i q; subst q; cases hx; exact v_fnT vf_str hg hm (by decide +kernel) ha hn hdb hp
                  · cases hx
theorem lmB_ok {c : Kc} {X : Cx} (h : Fit C c X) {x name : Str} {i : Nat} {mf : List D → List D → Option (D × List D)} {args : List Expr} {m : M (List RV)} {npos apos cpos : Pos} (hx : lmB name args.length = some mf) (hs : c.slot x = some i) (ha : VA C X args m) (hm0 : args = [] → m = M.pure [])
    (hp : allPlain args = true) (hl : args.length < 30) (hline : (apos.endLine == cpos.line) = true) : VE C X (.Call (.Attribute (.Name x npos) name apos) args [] cpos) (M.lmt i mf m) := by
  haveI := h.ck
  obtain ⟨k1, k2, k3, k4⟩ := slot_of h hs
  unfold lmB at hx
  split at hx
  · rename_i q
    obtain ⟨rfl, ql⟩ := q
    cases hx
    cases args with
    | nil => cases ql
    | cons e es => exact v_lmt lm_append PySem.F.slot_list_append PySem.F.type_list_append k1 k2 k3 k4 ha hp hl hline
  · split at hx
    · rename_i q
      obtain ⟨rfl, ql⟩ := q
      cases hx
      obtain rfl := List.length_eq_zero_iff.mp ql
      rw [hm0 rfl]
      exact v_lmt0 lm_pop PySem.F.slot_list_pop PySem.F.type_list_pop k1 k2 k3 k4 hline
    · split at hx
      · rename_i q
        obtain ⟨rfl, ql⟩ := q
        cases hx
        cases args with
        | nil => cases ql
        | cons e es => exact v_lmt lm_popAt PySem.F.slot_list_pop PySem.F.type_list_pop k1 k2 k3 k4 ha hp hl hline
      · split at hx
        · rename_i q
          obtain ⟨rfl, ql⟩ := q
          cases hx
          cases args with
          | nil => cases ql
          | cons e es => exact v_lmt lm_insert PySem.F.slot_list_insert PySem.F.type_list_insert k1 k2 k3 k4 ha hp hl hline
        · split at hx
          · rename_i q
            obtain ⟨rfl, ql⟩ := q
            cases hx
            obtain rfl := List.length_eq_zero_iff.mp ql
            rw [hm0 rfl]
            exact v_lmt0 lm_clear PySem.F.slot_list_clear PySem.F.type_list_clear k1 k2 k3 k4 hline
          · split at hx
            · rename_i q
              obtain ⟨rfl, ql⟩ := q
              cases hx
              cases args with
              | nil => cases ql
              | cons e es => exact v_lmt lm_extend PySem.F.slot_list_extend PySem.F.type_list_extend k1 k2 k3 k4 ha hp hl hline
            · cases hx
theorem upper_ok {X : Cx} [CK C X.K] {o : Expr} {a : M RV} {apos cpos : Pos} (ho : VE C X o a) (hn : noSuper o = true) (hline : (apos.endLine == cpos.line) = true) : VE C X (.Call (.Attribute o "upper" apos) [] [] cpos) (M.meth mUpper "str" (M.opd a) (M.pure [])) :=
  v_meth0 vm_upper (.inl rfl) PySem.F.plainAttrs_str PySem.F.slot_str_upper PySem.F.type_str_upper ho.opd hn hline
theorem argsM_nil {c : Kc} : argsM (cBs [] c) = M.pure [] := rfl
theorem cBs_len : ∀ {es : List Expr} {c : Kc}, (cBs es c).length = es.length
  | [], c => rfl
  | e :: es, c => congrArg (· + 1) (cBs_len (es := es) (c := c))
theorem good_tst {X : Cx} {e : Expr} {m : M RV} {t : M Bool} (h : VE C X e m) (k : VT C X e t) (q : noParts e = true) : Good C X e (Cd.tst m t) := ⟨h, k, fun _ => vi_stuck, slOk_of q⟩
theorem sub_ok {c : Kc} {X : Cx} (h : Fit C c X) {a b : Expr} {p : Pos} {ma : M RV} {db : Cd} (ha : VE C X a ma) (hb : Good C X b db) : VE C X (.Subscript a b p) (subOf b ma db) := by
  haveI := h.ck
  have plain : noSlice b = true → VE C X (.Subscript a b p) (if noSlice b = true then M.op2 vIx (M.opd ma) (M.opd db.e) else M.stuck) := fun hs => by
    rw [if_pos hs]
    exact v_sub (v2_ix (Nat.lt_of_le_of_lt (by omega) h.un)) ha.opd hb.e.opd (plainIx_of hs)
  cases b with
  | Slice lo hi st q =>
    have gen : st = none → VE C X (.Subscript a (.Slice lo hi none q) p) (M.sl (M.opd ma) db.lo db.hi) := fun e => by
      subst e
      obtain ⟨h1, h2⟩ := hb.s
      exact v_slice ha.opd h1 h2
    cases st with
    | none => cases lo <;> cases hi <;> exact gen rfl
    | some s =>
      clear gen hb plain
      unfold subOf
      split
      · rename_i e; cases e; exact v_rev ha.opd
      · rename_i e; cases e
      · exact ve_stuck
  | _ => exact plain rfl
theorem call_ok {c : Kc} {X : Cx} (h : Fit C c X) {x : Str} {p cp : Pos} {args : List Expr} {ds : List Cd} (hd : Goods C X args ds) : Good C X (.Call (.Name x p) args [] cp) (callOf c x args ds) := by
  haveI := h.ck
  unfold callOf
  split
  · rename_i hc
    obtain ⟨hp, hgl⟩ := hc
    obtain ⟨g1, g2, g3⟩ := isGl_of h hgl
    have hgx := h.gl x
    split
    · rename_i n cf q
      rw [q] at hgx
      obtain ⟨k, f, fd, ps, F, hn, hr, hm, hk, hb⟩ := hgx
      cases args with
      | nil =>
        cases ds with
        | nil => exact good_val (v_call0 F hn hr g1 hm hk hb g2) rfl rfl
        | cons _ _ => exact hd.elim
      | cons e es => exact good_val (v_call F hn hr g1 hm hk hb (args_ok hd hp) g2 hp) rfl rfl
    · rename_i q
      rw [q] at hgx
      have hgx : X.mg x = none := hgx
      split
      · exact good_no rfl
      rename_i hne
      split
      · rename_i vf hf
        exact good_val (fnB_ok h hf hgx g1 g2 g3 (args_ok hd hp) hp hne) rfl rfl
      · split
        · rename_i hx
          subst hx
          refine ⟨ve_stuck, vt_stuck, fun tg => ?_, trivial⟩
          cases ds with
          | nil => exact vi_stuck
          | cons d1 ds =>
            cases args with
            | nil => exact hd.elim
            | cons e es =>
              cases ds with
              | nil =>
                cases es with
                | nil => exact vi_rng1 g1 hgx hd.1.e.opd (Bool.and_eq_true_iff.mp hp).1
                | cons _ _ => exact hd.2.elim
              | cons d2 ds =>
                cases es with
                | nil => exact hd.2.elim
                | cons e2 es2 =>
                  cases ds with
                  | nil =>
                    cases es2 with
                    | nil => exact vi_rng2 g1 hgx hd.1.e.opd hd.2.1.e.opd (Bool.and_eq_true_iff.mp hp).1 (Bool.and_eq_true_iff.mp (Bool.and_eq_true_iff.mp hp).2).1
                    | cons _ _ => exact hd.2.2.elim
                  | cons _ _ => exact vi_stuck
        · exact good_no rfl
    · exact good_no rfl
  · exact good_no rfl
theorem meth_ok {c : Kc} {X : Cx} (h : Fit C c X) {o : Expr} {m : Str} {ap cp : Pos} {args : List Expr} {ds : List Cd} {mo : M RV} (ho : VE C X o mo) (hd : Goods C X args ds) : VE C X (.Call (.Attribute o m ap) args [] cp) (methOf c o m ap cp args ds mo) := by
  haveI := h.ck
  unfold methOf
  split
  · rename_i hc
    obtain ⟨hp, hl, hline⟩ := hc
    split
    · rename_i x p mf hm
      split
      · rename_i i hs
        refine lmB_ok h hm hs (args_ok hd hp) (fun e => ?_) hp hl hline
        subst e
        cases ds with
        | nil => rfl
        | cons _ _ => exact hd.elim
      · exact ve_stuck
    · split
      · rename_i q
        obtain ⟨q1, q2, q3⟩ := q
        subst q2 q3
        exact upper_ok ho q1 hline
      · exact ve_stuck
  · exact ve_stuck
theorem comp_ok {c : Kc} {X : Cx} (h : Fit C c X) {elt tg it : Expr} {ifs : List Expr} {k : Int} {scope : Scope} {pos : Pos} {me : M RV} {di : Cd} {ds : List Cd} (hi : Good C X it di) (he : ∀ p, VE C (blkX X scope p) elt me) (hd : ∀ p, Goods C (blkX X scope p) ifs ds) (hlen : ds.length = ifs.length) :
    VE C X (.ListComp elt [⟨tg, it, ifs, k⟩] scope pos) (lcOf c scope k it (tgt tg (c.blk scope)) di.i ds me) ∧
    ∀ {x : Str} {i : Nat} {py spos : Pos} {Fx : Nat → Bool} {kp : Bool}, c.own x = some i → VS C Fx X (.Assign [.Name x py] (.ListComp elt [⟨tg, it, ifs, k⟩] scope pos) spos) (S.asg Fx kp i (lcOf c scope k it (tgt tg (c.blk scope)) di.i ds me)) := by
  haveI := h.ck
  have none_ : VE C X (.ListComp elt [⟨tg, it, ifs, k⟩] scope pos) M.stuck ∧ ∀ {x : Str} {i : Nat} {py spos : Pos} {Fx : Nat → Bool} {kp : Bool}, c.own x = some i → VS C Fx X (.Assign [.Name x py] (.ListComp elt [⟨tg, it, ifs, k⟩] scope pos) spos) (S.asg Fx kp i M.stuck) := ⟨ve_stuck, fun _ => vs_stuck⟩
  unfold lcOf
  by_cases hc : k = 0 ∧ noSet it = true ∧ blkC c.N c.sc scope (ownOf c.N scope) = true
  · rw [if_pos hc]
    obtain ⟨rfl, hs, hb⟩ := hc
    have okb : BlkOk X.N X.env.scope scope (ownOf c.N scope) := by rw [h.N, h.sc]; exact blkOk_by hb
    have hN : X.N.Nodup := by rw [h.N]; exact h.nd
    cases ht : tgt tg (c.blk scope) with
    | none => exact none_
    | some t =>
      have core : ∀ mt : M Bool, ((ifs = [] ∧ mt = M.pure true) ∨ ∃ cc, ifs = [cc] ∧ ∀ p, VT C (blkX X scope p) cc mt) →
          VE C X (.ListComp elt [⟨tg, it, ifs, 0⟩] scope pos) (if subList t.slots ((ownOf c.N scope).map (·.2)) = true then M.lc (Tgt.put (c.blk scope).Fx t) ((ownOf c.N scope).map (·.2)) di.i mt me else M.stuck) ∧
          ∀ {x : Str} {i : Nat} {py spos : Pos} {Fx : Nat → Bool} {kp : Bool}, c.own x = some i → VS C Fx X (.Assign [.Name x py] (.ListComp elt [⟨tg, it, ifs, 0⟩] scope pos) spos) (S.asg Fx kp i (if subList t.slots ((ownOf c.N scope).map (·.2)) = true then M.lc (Tgt.put (c.blk scope).Fx t) ((ownOf c.N scope).map (·.2)) di.i mt me else M.stuck)) := fun mt hmt => by
        by_cases hsub : subList t.slots ((ownOf c.N scope).map (·.2)) = true
        · rw [if_pos hsub]
          refine ⟨v_lc h.calm hN (hi.i tg) okb (subList_of hsub) (fun p => tgt_ok (h.blk scope p) ht) hmt he hs, fun {x i py spos Fx kp} ho => ?_⟩
          obtain ⟨o1, o2, o3⟩ := own_of h ho
          exact vs_setLc h.calm hN (hi.i tg) okb (subList_of hsub) (fun p => tgt_ok (h.blk scope p) ht) hmt he hs o1 o2 o3
        · rw [if_neg hsub]; exact none_
      cases ds with
      | nil =>
        cases ifs with
        | nil => exact core _ (.inl ⟨rfl, rfl⟩)
        | cons _ _ => cases hlen
      | cons d ds =>
        cases ds with
        | nil =>
          cases ifs with
          | nil => cases hlen
          | cons cc r =>
            cases r with
            | nil => exact core _ (.inr ⟨cc, rfl, fun p => (hd p).1.t⟩)
            | cons _ _ => cases hlen
        | cons _ _ => exact none_
  · rw [if_neg hc]; exact none_
theorem no_args {X : Cx} {c : Kc} {e : Expr} (h : noParts e = true) : Good C X e Cd.no := good_no h
mutual
theorem cB_ok : ∀ (e : Expr) (c : Kc) (X : Cx), Fit C c X → Good C X e (cB e c)
  | .Name x p, c, X, h => haveI := h.ck; good_val (nameE_ok h) rfl rfl
  | .Constant k j p, c, X, h => haveI := h.ck; good_val consts_ok rfl rfl
  | .BinOp a op b p, c, X, h => by
    haveI := h.ck
    refine good_of ?_ rfl
    cases e : vOp op with
    | none => exact ve_stuck
    | some vf => exact v_bin (vOp_ok e) (cB_ok a c X h).e.opd (cB_ok b c X h).e.opd
  | .UnaryOp op a p, c, X, h => by
    haveI := h.ck
    have ih := cB_ok a c X h
    cases op with
    | Not => exact good_tst (v_not ih.e) (vt_not ih.t) rfl
    | USub => exact good_of (v_neg ih.e.opd) rfl
    | _ => exact good_no rfl
  | .BoolOp op vs p, c, X, h => by
    haveI := h.ck
    have ih := cBs_ok vs c X h
    cases op with
    | And => exact good_tst (and_ok ih).1 (and_ok ih).2.vt rfl
    | Or => exact good_tst (or_ok ih).1 (or_ok ih).2.vt rfl
  | .Compare a ops bs p, c, X, h => by
    haveI := h.ck
    have ia := cB_ok a c X h
    have ib := cBs_ok bs c X h
    cases ops with
    | nil => exact good_no rfl
    | cons op ops =>
      cases ops with
      | nil =>
        cases bs with
        | nil => exact good_no rfl
        | cons b bs =>
          cases bs with
          | nil =>
            by_cases hs : noSet b = true
            · have e : cB (.Compare a [op] [b] p) c = Cd.tst (M.op2 (vCmp op) (M.opd (cB a c).e) (M.opd (cB b c).e)) (M.toB (M.op2 (vCmp op) (M.opd (cB a c).e) (M.opd (cB b c).e))) := if_pos hs
              rw [e]
              exact good_tst (v_cmp (vCmp_ok h op) ia.e.opd ib.1.e.opd hs) (vt_cmp (vCmp_ok h op) ia.e.opd ib.1.e.opd hs) rfl
            · have e : cB (.Compare a [op] [b] p) c = Cd.no := if_neg hs
              rw [e]
              exact good_no rfl
          | cons _ _ => exact good_no rfl
      | cons op' ops =>
        cases ops with
        | cons op2 ops =>
          cases ops with
          | cons _ _ => exact good_no rfl
          | nil =>
            cases bs with
            | nil => exact good_no rfl
            | cons b bs =>
              cases bs with
              | nil => exact good_no rfl
              | cons d bs =>
                cases bs with
                | nil => exact good_no rfl
                | cons f bs =>
                  cases bs with
                  | cons _ _ => exact good_no rfl
                  | nil =>
                    by_cases hs : noSet f = true
                    · have e : cB (.Compare a [op, op', op2] [b, d, f] p) c = Cd.tst (M.chain3 (vCmp op) (vCmp op') (vCmp op2) (M.opd (cB a c).e) (M.opd (cB b c).e) (M.opd (cB d c).e) (M.opd (cB f c).e)) M.stuck := if_pos hs
                      rw [e]
                      exact good_tst (v_chain3 (vCmp_ok h op) (vCmp_ok h op') (vCmp_ok h op2) ia.e.opd ib.1.e.opd ib.2.1.e.opd ib.2.2.1.e.opd hs) vt_stuck rfl
                    · have e : cB (.Compare a [op, op', op2] [b, d, f] p) c = Cd.no := if_neg hs
                      rw [e]
                      exact good_no rfl
        | nil =>
          cases bs with
          | nil => exact good_no rfl
          | cons b bs =>
            cases bs with
            | nil => exact good_no rfl
            | cons d bs =>
              cases bs with
              | nil =>
                by_cases hs : noSet d = true
                · have e : cB (.Compare a [op, op'] [b, d] p) c = Cd.tst (M.chain (vCmp op) (vCmp op') (M.opd (cB a c).e) (M.opd (cB b c).e) (M.opd (cB d c).e)) (M.toB (M.chain (vCmp op) (vCmp op') (M.opd (cB a c).e) (M.opd (cB b c).e) (M.opd (cB d c).e))) := if_pos hs
                  rw [e]
                  exact good_tst (v_chain (vCmp_ok h op) (vCmp_ok h op') ia.e.opd ib.1.e.opd ib.2.1.e.opd hs) (vt_chain (vCmp_ok h op) (vCmp_ok h op') ia.e.opd ib.1.e.opd ib.2.1.e.opd hs) rfl
                · have e : cB (.Compare a [op, op'] [b, d] p) c = Cd.no := if_neg hs
                  rw [e]
                  exact good_no rfl
              | cons _ _ => exact good_no rfl
  | .IfExp t a b p, c, X, h => haveI := h.ck; good_of (v_ifExp (cB_ok t c X h).t (cB_ok a c X h).e (cB_ok b c X h).e) rfl
  | .List es p, c, X, h => by
    haveI := h.ck
    refine good_of ?_ rfl
    have ih := cBs_ok es c X h
    by_cases hp : allPlain es = true
    · rw [if_pos hp]; exact v_list (args_ok ih hp)
    · rw [if_neg hp]; exact ve_stuck
  | .Tuple es k p, c, X, h => by
    haveI := h.ck
    refine good_of ?_ rfl
    have ih := cBs_ok es c X h
    by_cases hp : allPlain es = true
    · rw [if_pos hp]; exact v_tuple (args_ok ih hp)
    · rw [if_neg hp]; exact ve_stuck
  | .Slice lo hi st p, c, X, h => haveI := h.ck; ⟨ve_stuck, vt_stuck, fun _ => vi_stuck, by
    have h1 := cP_ok lo c X h
    have h2 := cP_ok hi c X h
    cases st with
    | none => exact ⟨h1, h2⟩
    | some _ => trivial⟩
  | .Attribute o m p, c, X, h => haveI := h.ck; ⟨ve_stuck, vt_stuck, fun _ => vi_stuck, (cB_ok o c X h).e⟩
  | .Subscript a b p, c, X, h => haveI := h.ck; good_val (sub_ok h (cB_ok a c X h).e (cB_ok b c X h)) rfl rfl
  | .Call f args kws cp, c, X, h => by
    haveI := h.ck
    have hf := cB_ok f c X h
    have ih := cBs_ok args c X h
    cases kws with
    | cons _ _ => exact good_no rfl
    | nil =>
      cases f with
      | Name x p => exact call_ok h ih
      | Attribute o m ap => exact good_val (meth_ok h hf.s ih) rfl rfl
      | _ => exact good_no rfl
  | .ListComp elt gs scope p, c, X, h => by
    haveI := h.ck
    have ie : ∀ q, Good C (blkX X scope q) elt (cB elt (c.blk scope)) := fun q => cB_ok elt (c.blk scope) (blkX X scope q) (h.blk scope q)
    have ig := cGs_ok gs scope c X h
    cases gs with
    | nil => exact good_no rfl
    | cons g gs =>
      cases gs with
      | nil =>
        obtain ⟨tg, it, ifs, k⟩ := g
        obtain ⟨i1, i2⟩ := ig.1
        exact good_of (comp_ok h i1 (fun q => (ie q).e) i2 cBs_len).1 rfl
      | cons _ _ => exact good_no rfl
  | .NamedExpr .., c, X, h => haveI := h.ck; good_no rfl
  | .Lambda .., c, X, h => haveI := h.ck; good_no rfl
  | .Dict .., c, X, h => haveI := h.ck; good_no rfl
  | .Set .., c, X, h => haveI := h.ck; good_no rfl
  | .SetComp .., c, X, h => haveI := h.ck; good_no rfl
  | .DictComp .., c, X, h => haveI := h.ck; good_no rfl
  | .GeneratorExp .., c, X, h => haveI := h.ck; good_no rfl
  | .Await .., c, X, h => haveI := h.ck; good_no rfl
  | .Yield .., c, X, h => haveI := h.ck; good_no rfl
  | .YieldFrom .., c, X, h => haveI := h.ck; good_no rfl
  | .FormattedValue .., c, X, h => haveI := h.ck; good_no rfl
  | .JoinedStr .., c, X, h => haveI := h.ck; good_no rfl
  | .Starred .., c, X, h => haveI := h.ck; good_no rfl
theorem cBs_ok : ∀ (es : List Expr) (c : Kc) (X : Cx), Fit C c X → Goods C X es (cBs es c)
  | [], _, _, _ => trivial
  | e :: es, c, X, h => haveI := h.ck; ⟨cB_ok e c X h, cBs_ok es c X h⟩
theorem cP_ok : ∀ (o : Option Expr) (c : Kc) (X : Cx), Fit C c X → VP C X o (cP o c)
  | none, c, X, h => haveI := h.ck; vp_none
  | some e, c, X, h => haveI := h.ck; vp_some (cB_ok e c X h).e.opd
theorem cG_ok : ∀ (g : Comprehension) (scope : Scope) (c : Kc) (X : Cx), Fit C c X → Good C X g.iter (cB g.iter c) ∧ ∀ p, Goods C (blkX X scope p) g.ifs (cBs g.ifs (c.blk scope))
  | ⟨tg, it, ifs, k⟩, scope, c, X, h => haveI := h.ck; ⟨cB_ok it c X h, fun p => cBs_ok ifs (c.blk scope) (blkX X scope p) (h.blk scope p)⟩
theorem cGs_ok : ∀ (gs : List Comprehension) (scope : Scope) (c : Kc) (X : Cx), Fit C c X → (match gs with
    | [] => True
    | g :: _ => (Good C X g.iter (cB g.iter c) ∧ ∀ p, Goods C (blkX X scope p) g.ifs (cBs g.ifs (c.blk scope))) ∧ True)
  | [], _, _, _, _ => trivial
  | g :: gs, scope, c, X, h => haveI := h.ck; ⟨cG_ok g scope c X h, trivial⟩
end
end
end VL

set_option Elab.async false
set_option linter.all false
set_option maxRecDepth 100000
set_option maxHeartbeats 4000000
/-! Statements: the value program and that it is right. -/
namespace VL
open PySem PySem.Spec L2

def asgOf (c : Kc) (t e : Expr) (de : Cd) (di : M RV) : S := match t with
  | .Name x _ => (match c.own x with
    | some i => S.asg c.Fx (c.kp.contains i) i de.e
    | none => fun _ => .stuck)
  | .Tuple es k p => if noComp e = true ∧ noSeq e = true then (match tgt (.Tuple es k p) c with
    | some t => S.asgT c.Fx t (M.opd de.e)
    | none => fun _ => .stuck) else fun _ => .stuck
  | .Subscript (.Name x _) idx _ => if noComp e = true ∧ noSlice idx = true then (match c.slot x with
    | some i => S.sub i de.e (M.opd di)
    | none => fun _ => .stuck) else fun _ => .stuck
  | _ => fun _ => .stuck
def augOf (c : Kc) (x : Str) (op : Operator) (de : Cd) : S := match c.own x, vIOp op with
  | some i, some vf => S.aug c.Fx i vf (M.opd de.e)
  | _, _ => fun _ => .stuck
def idxOf : Expr → Expr
  | .Subscript _ i _ => i
  | e => e
mutual
def cS : Stmt → Kc → S
  | .Assign [t] e _, c => asgOf c t e (cB e c) (cB (idxOf t) c).e
  | .AugAssign (.Name x _) op e _, c => augOf c x op (cB e c)
  | .Expr e _, c => if noComp e = true then S.drop (cB e c).e else fun _ => .stuck
  | .Return (some e) _, c => S.ret c.np (cB e c).e
  | .Return none _, _ => fun g => .ret (.sh .non) g
  | .If t a b _, c => S.ite (cB t c).t (cSs a c) (cSs b c)
  | .While t a [] _, c => S.whileN (cB t c).t (cSs a c) wFuel
  | .For t e a [] _, c => if noSet e = true then (match tgt t c with
    | some t => S.for_ (Tgt.put c.Fx t) (cSs a c) (cB e c).i
    | none => fun _ => .stuck) else fun _ => .stuck
  | .Pass _, _ => S.nop
  | .Break _, _ => fun g => .brk g
  | .Continue _, _ => fun g => .cont g
  | _, _ => fun _ => .stuck
def cSs : List Stmt → Kc → S
  | [], _ => S.nop
  | s :: ss, c => S.seq (cS s c) (cSs ss c)
end
section
variable {C : CMap}
theorem asg_stuck {Fx : Nat → Bool} {kp : Bool} {i : Nat} {X : Cx} {st : Stmt} : VS C Fx X st (S.asg Fx kp i M.stuck) := vs_stuck
theorem asgName_ok {c : Kc} {X : Cx} (h : Fit C c X) {x : Str} {i : Nat} {e : Expr} {p pos : Pos} {Fx : Nat → Bool} {kp : Bool} (ho : c.own x = some i) : VS C Fx X (.Assign [.Name x p] e pos) (S.asg Fx kp i (cB e c).e) := by
  haveI := h.ck
  have hN : X.N.Nodup := by rw [h.N]; exact h.nd
  obtain ⟨o1, o2, o3⟩ := own_of h ho
  have plain : noComp e = true → VS C Fx X (.Assign [.Name x p] e pos) (S.asg Fx kp i (cB e c).e) := fun hc => vs_set hN o1 o2 o3 (cB_ok e c X h).e hc
  cases e with
  | ListComp elt gs scope q =>
    cases gs with
    | nil => exact asg_stuck
    | cons g gs =>
      cases gs with
      | nil =>
        obtain ⟨tg, it, ifs, k⟩ := g
        obtain ⟨i1, i2⟩ := cG_ok ⟨tg, it, ifs, k⟩ scope c X h
        exact (comp_ok h i1 (fun q => (cB_ok elt (c.blk scope) (blkX X scope q) (h.blk scope q)).e) i2 cBs_len).2 ho
      | cons _ _ => exact asg_stuck
  | SetComp => exact asg_stuck
  | DictComp => exact asg_stuck
  | _ => exact plain rfl
theorem asg_ok {c : Kc} {X : Cx} (h : Fit C c X) {t e : Expr} {pos : Pos} : VS C c.Fx X (.Assign [t] e pos) (asgOf c t e (cB e c) (cB (idxOf t) c).e) := by
  haveI := h.ck
  unfold asgOf
  split
  · rename_i x p
    cases q : c.own x with
    | none => exact vs_stuck
    | some i => exact asgName_ok h q
  · rename_i es k p
    split
    · rename_i hc
      obtain ⟨h1, h2⟩ := hc
      cases q : tgt (.Tuple es k p) c with
      | none => exact vs_stuck
      | some t => exact vs_asgT h1 h2 (cB_ok e c X h).e (tgt_ok h q)
    · exact vs_stuck
  · rename_i x p idx sp
    split
    · rename_i hc
      obtain ⟨h1, h2⟩ := hc
      cases q : c.slot x with
      | none => exact vs_stuck
      | some i =>
        obtain ⟨k1, k2, k3, k4⟩ := slot_of h q
        exact vs_sub (Nat.lt_of_le_of_lt (by omega) h.un) k1 k2 k3 k4 (cB_ok e c X h).e (cB_ok idx c X h).e.opd h1 h2
    · exact vs_stuck
  · exact vs_stuck
theorem aug_ok {c : Kc} {X : Cx} (h : Fit C c X) {x : Str} {op : Operator} {e : Expr} {p pos : Pos} : VS C c.Fx X (.AugAssign (.Name x p) op e pos) (augOf c x op (cB e c)) := by
  haveI := h.ck
  unfold augOf
  split
  · rename_i i vf h1 h2
    obtain ⟨o1, o2, o3⟩ := own_of h h1
    exact vs_aug (vIOp_ok h2) (by rw [h.N]; exact h.nd) o1 o2 o3 (cB_ok e c X h).e.opd
  · exact vs_stuck
mutual
theorem cS_ok : ∀ (s : Stmt) (c : Kc) (X : Cx), Fit C c X → VS C c.Fx X s (cS s c)
  | .Assign ts e p, c, X, h => by
    haveI := h.ck
    cases ts with
    | nil => exact vs_stuck
    | cons t ts =>
      cases ts with
      | nil => exact asg_ok h
      | cons _ _ => exact vs_stuck
  | .AugAssign t op e p, c, X, h => by
    haveI := h.ck
    cases t with
    | Name x q => exact aug_ok h
    | _ => exact vs_stuck
  | .Expr e p, c, X, h => by
    haveI := h.ck
    by_cases hc : noComp e = true
    · have q : cS (.Expr e p) c = S.drop (cB e c).e := if_pos hc
      rw [q]; exact vs_expr (cB_ok e c X h).e hc
    · have q : cS (.Expr e p) c = fun _ => .stuck := if_neg hc
      rw [q]; exact vs_stuck
  | .Return o p, c, X, h => by
    haveI := h.ck
    cases o with
    | none => exact vs_retN
    | some e => exact vs_ret (cB_ok e c X h).e
  | .If t a b p, c, X, h => haveI := h.ck; vs_if (cB_ok t c X h).t (cSs_ok a c X h) (cSs_ok b c X h)
  | .While t a b p, c, X, h => by
    haveI := h.ck
    have ih := cSs_ok a c X h
    cases b with
    | nil => exact vs_while h.po (cB_ok t c X h).t ih
    | cons _ _ => exact vs_stuck
  | .For t e a b p, c, X, h => by
    haveI := h.ck
    have ih := cSs_ok a c X h
    cases b with
    | cons _ _ => exact vs_stuck
    | nil =>
      by_cases hc : noSet e = true
      · have q : cS (.For t e a [] p) c = (match tgt t c with
            | some t => S.for_ (Tgt.put c.Fx t) (cSs a c) (cB e c).i
            | none => fun _ => .stuck) := if_pos hc
        rw [q]
        cases w : tgt t c with
        | none => exact vs_stuck
        | some u => exact vs_for h.po h.calm ((cB_ok e c X h).i t) (tgt_ok h w) ih hc
      · have q : cS (.For t e a [] p) c = fun _ => .stuck := if_neg hc
        rw [q]; exact vs_stuck
  | .Pass _, c, X, h => haveI := h.ck; vs_pass
  | .Break _, c, X, h => haveI := h.ck; vs_break
  | .Continue _, c, X, h => haveI := h.ck; vs_cont
  | .FunctionDef .., c, X, h => haveI := h.ck; vs_stuck
  | .AsyncFunctionDef .., c, X, h => haveI := h.ck; vs_stuck
  | .ClassDef .., c, X, h => haveI := h.ck; vs_stuck
  | .Delete .., c, X, h => haveI := h.ck; vs_stuck
  | .TypeAlias .., c, X, h => haveI := h.ck; vs_stuck
  | .AnnAssign .., c, X, h => haveI := h.ck; vs_stuck
  | .AsyncFor .., c, X, h => haveI := h.ck; vs_stuck
  | .With .., c, X, h => haveI := h.ck; vs_stuck
  | .AsyncWith .., c, X, h => haveI := h.ck; vs_stuck
  | .Match .., c, X, h => haveI := h.ck; vs_stuck
  | .Raise .., c, X, h => haveI := h.ck; vs_stuck
  | .Try .., c, X, h => haveI := h.ck; vs_stuck
  | .TryStar .., c, X, h => haveI := h.ck; vs_stuck
  | .Assert .., c, X, h => haveI := h.ck; vs_stuck
  | .Import .., c, X, h => haveI := h.ck; vs_stuck
  | .ImportFrom .., c, X, h => haveI := h.ck; vs_stuck
  | .Global .., c, X, h => haveI := h.ck; vs_stuck
  | .Nonlocal .., c, X, h => haveI := h.ck; vs_stuck
theorem cSs_ok : ∀ (ss : List Stmt) (c : Kc) (X : Cx), Fit C c X → VSs C c.Fx X ss (cSs ss c)
  | [], _, _, _ => vs_nil
  | s :: ss, c, X, h => haveI := h.ck; vs_cons (cS_ok s c X h) (cSs_ok ss c X h)
end
end
end VL

set_option Elab.async false
set_option linter.all false
set_option maxRecDepth 100000
set_option maxHeartbeats 4000000
/-! A program's defs: each keeps what its value program says. -/
namespace VL
open PySem PySem.Spec L2

theorem lookup_zip {x : Str} : ∀ {ps : List Str} {us : List Value}, us.length = ps.length → x ∈ ps → ((ps.zip us).lookup x).isNone = false
  | [], _, _, h => nomatch h
  | p :: ps, [], h, _ => nomatch h
  | p :: ps, u :: us, h, hx => by
    rw [List.zip_cons_cons, List.lookup_cons]
    by_cases c : x = p
    · subst c; simp
    · have : (x == p) = false := beq_false_of_ne c
      rw [this]
      exact lookup_zip (by simpa using h) ((List.mem_cons.mp hx).resolve_left c)
theorem fm_congr {α β : Type} {f g : α → Option β} : ∀ {l : List α}, (∀ a ∈ l, f a = g a) → l.filterMap f = l.filterMap g
  | [], _ => rfl
  | a :: l, h => by
    rw [List.filterMap_cons, List.filterMap_cons, h a (List.mem_cons_self ..), fm_congr fun b hb => h b (List.mem_cons_of_mem _ hb)]
theorem filterMap_lookup : ∀ {ps : List Str} {us : List Value}, us.length = ps.length → ps.Nodup → (ps.filterMap fun n => ((ps.zip us).lookup n).map fun v => (n, v)) = ps.zip us
  | [], us, h, _ => by simp
  | p :: ps, [], h, _ => nomatch h
  | p :: ps, u :: us, h, nd => by
    obtain ⟨n1, n2⟩ := List.nodup_cons.mp nd
    rw [List.filterMap_cons, List.zip_cons_cons, List.lookup_cons, beq_self_eq_true]
    dsimp only [Option.map_some]
    congr 1
    have := filterMap_lookup (us := us) (by simpa using h) n2
    refine Eq.trans (fm_congr fun n hn => ?_) this
    have hne : n ≠ p := fun e => n1 (by rw [← e]; exact hn)
    rw [List.lookup_cons, beq_false_of_ne hne]
theorem binds_plain {x qual : Str} {as : List Arg} {body : List Stmt} {scope : Scope} {kV doc pm : Value} {an : Option Addr} {cdv ct : Value} {us : List Value} (nd : (as.map (·.arg)).Nodup) (hl : us.length = (as.map (·.arg)).length) :
    bindArgs (PySem.W.fnOf x qual ⟨[], as, none, [], [], none, []⟩ body scope .none kV doc pm an cdv ct) ⟨us, []⟩ = pure ((as.map (·.arg)).zip us) := by
  unfold bindArgs PySem.W.fnOf
  have h1 : ((as.map (·.arg)).take (as.map (·.arg)).length).filter (fun n => (((as.map (·.arg)).zip us).lookup n).isNone) = [] := by
    rw [List.take_length, List.filter_eq_nil_iff]
    intro n hn
    rw [lookup_zip hl hn]
    exact Bool.false_ne_true
  have h2 := filterMap_lookup hl nd
  have h3 : decide (us.length > (as.map (·.arg)).length) = false := by rw [hl]; simp
  have h4 : (seqItems? Value.none : Sem (Option (Array Value))) = pure none := rfl
  have h5 : ¬ (us.length > (as.map (·.arg)).length) := by rw [hl]; exact Nat.lt_irrefl _
  have h1' : List.filter (fun n => (List.lookup n ((List.map (fun x => x.arg) as).zip us)).isNone) (List.map (fun x => x.arg) as) = [] := by rw [List.take_length] at h1; exact h1
  simp only [List.map_nil, List.nil_append, List.append_nil, List.forIn_nil, pure_bind, h4]
  simp [hl]
  rw [if_neg (by rw [List.drop_nil, List.length_nil, Nat.sub_zero, h1]; decide), ← List.filterMap_map]
  exact congrArg pure h2
/-- a def of the text -/
structure DT where
  nm : Str
  /-- its names, parameters first -/
  N : List Str
  np : Nat
  re : List Nat := []
  kp : List Nat := []
  as : List Arg
  body : List Stmt
  sc : Scope
abbrev DT.ps (d : DT) : List Str := d.as.map (·.arg)
abbrev DT.params (d : DT) : Arguments := ⟨[], d.as, none, [], [], none, []⟩
def DT.kc (d : DT) (gl : Str → GV) : Kc := { N := d.N, sc := d.sc, scw := d.sc, np := d.np, re := d.re, kp := d.kp, gl := gl }
def DT.cf (d : DT) (gl : Str → GV) : List D → CO := runDef (d.kc gl).Fx d.np (d.N.length - d.np) (cSs d.body (d.kc gl))
def DT.ok (d : DT) : Bool := C8.scC d.N d.ps d.sc && decide (d.np = d.as.length) && decide (d.as.length ≤ d.N.length)
/-- what else the module's names stand for -/
inductive GC where
  | none | int (i : Int) | str (s : Str)
def GC.gv : GC → GV
  | .none => .none | .int i => .int i | .str s => .str s
def GC.Ok (mg : Str → Option Value) (x : Str) : GC → Prop
  | .none => mg x = Option.none
  | .int i => ∃ u, mg x = some (.int i u)
  | .str s => ∃ u, mg x = some (.str s u)
def glC (gs : List (Str × GC)) (x : Str) : GV := match gs.lookup x with
  | some v => v.gv
  | none => .other
def glAt (ds : List DT) (gs : List (Str × GC)) : Nat → Str → GV
  | 0 => fun x => match ds.find? (fun d => d.nm == x) with
    | some _ => .other
    | none => glC gs x
  | k + 1 => fun x => match ds.find? (fun d => d.nm == x) with
    | some d => .fn d.np (d.cf (glAt ds gs k))
    | none => glC gs x
def DT.Fn (K : PySem.W.Frag) (d : DT) (f : Addr) (fd : FuncData) : Prop := FunD K d.nm d.nm d.params d.body d.sc [] [] f fd
section
variable {P : Program} {w : World} {K : PySem.W.Frag} {mg : Str → Option Value} {base : Heap} {C : CMap}
theorem DT.ok_of {d : DT} (h : d.ok = true) : FnScope d.N d.ps d.sc ∧ d.np = d.as.length ∧ d.as.length ≤ d.N.length ∧ d.ps.Nodup := by
  unfold DT.ok at h
  simp only [Bool.and_eq_true, decide_eq_true_eq] at h
  obtain ⟨⟨h1, h2⟩, h3⟩ := h
  have S := C8.fnScope_by h1
  refine ⟨S, h2, h3, ?_⟩
  have := S.nd
  rw [← S.pre]
  exact this.sublist (List.take_sublist ..)
theorem DT.binds {d : DT} {f : Addr} {fd : FuncData} (h : d.ok = true) (F : d.Fn K f fd) : Binds K fd d.ps [] :=
  FunD.bindsN F fun _ _ _ _ _ _ us hl => binds_plain (DT.ok_of h).2.2.2 hl
theorem DT.bindsA {d : DT} {f : Addr} {fd : FuncData} (h : d.ok = true) (F : d.Fn K f fd) (s : Shared) (us : List Value) (hl : us.length = d.ps.length) : BindsTo s fd ⟨us, []⟩ (d.ps.zip us) :=
  FunD.bindsA F (fun _ _ _ _ _ _ us hl => binds_plain (DT.ok_of h).2.2.2 hl) s us hl
theorem un_of {k : Nat} {A : Around} (r : Room k A) : A.units + 65 < cLine := by
  have := r.un
  omega
theorem glC_ok {X : Cx} {gs : List (Str × GC)} (hg : ∀ x v, gs.lookup x = some v → v.Ok X.mg x) (x : Str) : GlOk C X x (glC gs x) := by
  unfold glC
  split
  · rename_i v e
    have := hg x v e
    cases v with
    | none => exact this
    | int i => exact this
    | str s => exact this
  · trivial
theorem prog_ok [ck : CK C K] {ds : List DT} {gs : List (Str × GC)} (hd : ∀ d ∈ ds, d.ok = true ∧ ∃ f fd, d.Fn K f fd ∧ mg d.nm = some (.ref f)) (hg : ∀ x v, gs.lookup x = some v → v.Ok mg x) :
    ∀ (k : Nat), ∀ d ∈ ds, ∀ f fd, d.Fn K f fd → FnOk P w K mg base (L2.CX P w) (k + 1) f fd d.ps (spV C d.np (d.cf (glAt ds gs k))) := by
  intro k
  induction k with
  | zero =>
    intro d hm f fd F
    obtain ⟨ok, _⟩ := hd d hm
    obtain ⟨S, e1, e2, nd⟩ := DT.ok_of ok
    refine FunD.ok F S (fun vs H Q E h => h.1.trans (by simp [e1])) fun cdv A outer s H vs Q E hr hs => ?_
    refine def_keeps (cSs_ok d.body (d.kc (glAt ds gs 0)) _ ⟨rfl, S.nd, rfl, rfl, ck, passes_of rfl, un_of hr, fun _ _ => rfl, fun x => ?_⟩) (takes_of rfl rfl rfl rfl) (by show d.N.length = _; omega) hs
    show GlOk C _ x (glAt ds gs 0 x)
    unfold glAt
    split
    · trivial
    · exact glC_ok hg x
  | succ k ih =>
    intro d hm f fd F
    obtain ⟨ok, _⟩ := hd d hm
    obtain ⟨S, e1, e2, nd⟩ := DT.ok_of ok
    refine FunD.ok F S (fun vs H Q E h => h.1.trans (by simp [e1])) fun cdv A outer s H vs Q E hr hs => ?_
    refine def_keeps (cSs_ok d.body (d.kc (glAt ds gs (k + 1))) _ ⟨rfl, S.nd, rfl, rfl, ck, passes_of rfl, un_of hr, fun _ _ => rfl, fun x => ?_⟩) (takes_of rfl rfl rfl rfl) (by show d.N.length = _; omega) hs
    show GlOk C _ x (glAt ds gs (k + 1) x)
    unfold glAt
    split
    · rename_i d' e
      have hm' : d' ∈ ds := List.mem_of_find?_eq_some e
      have hn : d'.nm = x := by have := List.find?_some e; simpa using this
      obtain ⟨ok', f', fd', F', g'⟩ := hd d' hm'
      exact ⟨k + 1, f', fd', d'.ps, ih d' hm' f' fd' F', runDef_len, hr, by rw [← hn]; exact g', F'.kp, DT.binds ok' F'⟩
    · exact glC_ok hg x
end
end VL

set_option Elab.async false
set_option linter.all false
set_option maxRecDepth 100000
set_option maxHeartbeats 4000000
/-! From the head to the value program. -/
namespace VL
open PySem PySem.Spec L2

def DT.dd (d : DT) : He.DefD := { at_ := (d.nm, none), name := d.nm, qual := d.nm, params := d.params, body := d.body, scope := d.sc }
def GC.fact (x : Str) : GC → He.Fa
  | .none => .free x
  | .int i => .int x i
  | .str s => .str x s
def faOf (ds : List DT) (gs : List (Str × GC)) : List He.Fa := ds.map (fun d => .glo d.nm) ++ gs.map fun p => p.2.fact p.1
section
variable {K : PySem.W.Frag} {h : Heap} {mg : Str → Option Value} {ds : List DT} {gs : List (Str × GC)}
theorem lookup_get {α : Type} {x : Str} {v : α} : ∀ {l : List (Str × α)}, l.lookup x = some v → ∃ i : Nat, l[i]? = some (x, v)
  | [], e => nomatch e
  | (y, u) :: l, e => by
    rw [List.lookup_cons] at e
    by_cases c : x = y
    · subst c
      rw [beq_self_eq_true] at e
      cases e
      exact ⟨0, rfl⟩
    · rw [beq_false_of_ne c] at e
      obtain ⟨i, q⟩ := lookup_get e
      exact ⟨i + 1, q⟩
theorem says_defs (X : K.In h) (G : h.Ns mainGlobals mg) (c : He.SaysD (faOf ds gs) (ds.map DT.dd) K) (hok : ds.all DT.ok = true) :
    ∀ d ∈ ds, d.ok = true ∧ ∃ f fd, d.Fn K f fd ∧ mg d.nm = some (.ref f) := fun d hd => by
  refine ⟨List.all_eq_true.mp hok d hd, ?_⟩
  obtain ⟨i, hi⟩ := List.getElem?_of_mem hd
  obtain ⟨fd, F⟩ := c.def_ i (d := d.dd) (by rw [List.getElem?_map, hi]; rfl)
  refine ⟨He.ga K d.nm, fd, F, He.glo_ok X G (c.fact i (f := .glo d.nm) ?_)⟩
  unfold faOf
  have hl : i < ds.length := get_lt hi
  rw [List.getElem?_append_left (by rw [List.length_map]; exact hl), List.getElem?_map, hi]
  rfl
theorem says_glob (X : K.In h) (G : h.Ns mainGlobals mg) (c : He.SaysD (faOf ds gs) (ds.map DT.dd) K) : ∀ x v, gs.lookup x = some v → v.Ok mg x := fun x v e => by
  obtain ⟨i, hi⟩ := lookup_get e
  have hf := c.fact (ds.length + i) (f := v.fact x) (by
    unfold faOf
    rw [List.getElem?_append_right (by rw [List.length_map]; exact Nat.le_add_right ..), List.length_map, Nat.add_sub_cancel_left, List.getElem?_map, hi]
    rfl)
  cases v with
  | none => exact He.free_ok X G hf
  | int i => exact He.int_ok X G hf
  | str s => exact He.str_ok X G hf
/-- no classes, the lists and tuples that the fragment holds -/
def CofK (K : PySem.W.Frag) : CMap where
  cls := fun _ => none
  kl := fun a vs => ∃ (o : Obj) (its : Array Value) (n : Nat), K.lookup a = some o ∧ o.cls = .type "list" ∧ o.dict = none ∧ o.data = .seq its n ∧ its.size ≤ sizeLine ∧ Vals vs its.toList
  kt := fun a vs => ∃ (o : Obj) (its : Array Value) (n : Nat), K.lookup a = some o ∧ o.cls = .type "tuple" ∧ o.data = .seq its n ∧ its.size ≤ sizeLine ∧ Vals vs its.toList
instance : CK (CofK K) K := ⟨fun _ _ h => h, fun _ _ h => h⟩
def scr (ns : List Int) : D := .obj false .frz (ns.map D.int)
theorem reps_ints {C : CMap} {W : AP} {H : Hp} : ∀ {ns : List Int}, Reps C W H (ns.map D.int) (ns.map V.int) []
  | [] => ⟨rfl, rfl⟩
  | n :: ns => .sh_cons ⟨rfl, rfl⟩ (reps_ints (ns := ns))
theorem entry_law {H : Hp} {a : Addr} {ns : List Int} {cf : List D → CO} {ps : List (Option D)} (ho : Only H) (hs : SqL K H a (ns.map V.int)) (e : cf [scr ns] = .ok (.bl true) ps) :
    spV (CofK K) 1 cf [.ref a] H (fun v _ => v = .bl true) fun _ _ _ => False := by
  have noIn : ∀ i b, b ∉ (fun _ => [] : Ow) i := fun i b z => nomatch z
  have noW : ∀ b, ¬ W2 (fun _ => False) (fun _ => []) b := fun b z => z.elim id fun ⟨i, z⟩ => (nomatch z)
  refine ⟨rfl, fun _ => False, [scr ns], fun _ => [], ⟨rfl, fun i d ed => ?_, fun i => List.nodup_nil, fun i j b z => (nomatch z), fun i b z => (nomatch z), fun i b z => (nomatch z), fun b z => z.elim, fun p hp => (nomatch hp), fun p hp => (nomatch hp)⟩, ?_⟩
  · cases i with
    | succ i => simp at ed
    | zero =>
      simp at ed
      subst ed
      refine ⟨.ref a, rfl, a, ns.map V.int, [], rfl, reps_ints, ?_, .inl (noW a), rfl, rfl⟩
      rcases hs with (hs | hs) | hs
      · rcases ho a with q | ⟨o, xs, q⟩
        · rw [q] at hs; cases hs
        · rw [q] at hs; cases hs
      · exact .inl hs
      · exact .inr hs
  · rw [e]
    intro v H' os' fr r x rr
    exact rr.2.1
end
theorem cx_none {P : Program} {w : World} {H : Hp} {s s' : Shared} {e : Value} (h : L2.CX P w [] H s (fun _ _ _ => False) e s') : False := by
  obtain ⟨_, _, _, _, _, _, _, _, _, _, _, _, z⟩ := h
  exact z
/-- a law over a head by facts: what is left is its value program -/
theorem walkV {l : PySem.W.OpenLaw} {q : Program} {loose : List Str} {XP : (Str → Option Value) → Heap → Prop} {YP : World → Heap → Prop} {dr : DefRec} {d : DT} {x : Str} {ds : List DT} {gs : List (Str × GC)}
    (k : Nat) (hn : l.most = some 63) (hdf : dr.params.defaults = []) (hk : k ≤ 200) (hnm : dr.name = d.nm) (hd : d ∈ ds) (hps : d.ps = [x]) (hnp : d.np = 1) (hok : ds.all DT.ok = true)
    (hY : ∀ (w : World) (h : Heap), YP w h → ∃ K : PySem.W.Frag, K.In h ∧ He.SaysD (faOf ds gs) (ds.map DT.dd) K)
    (val : ∀ ns : List Int, ns.length ≤ 63 → ∃ ps, d.cf (glAt ds gs k) [scr ns] = .ok (.bl true) ps) :
    PySem.W.WalkO q loose XP YP l.row.toRowW dr [] (fun f vs => PySem.call f vs) := by
  have hr : Room (k + 1) callerA := ⟨rfl, by show 1 + claimMargin + 3 * (k + 1) + 5 < recursionLimit; have : 1 + claimMargin + 3 * 201 + 5 < recursionLimit := by decide
                                             omega, by show 4 + 16 * (k + 1) + 200 < cLine; have : 4 + 16 * 201 + 200 < cLine := by decide
                                                       omega⟩
  refine Att.attach_call hn hdf fun w s0 s1 mg mb fa o pm cd doc a vs ns gr hy ho hd' hcd hmg hobj hints hlen hg => ?_
  obtain ⟨K, KX, c⟩ := hY w _ hy
  have D1 := says_defs KX gr.T.g c hok
  have G1 := says_glob KX gr.T.g c
  obtain ⟨okd, f, fd, F, ef⟩ := D1 d hd
  have e2 : f = fa := by
    rw [hnm, ef] at hmg
    cases hmg
    rfl
  subst e2
  refine law_call (fd := fd) (CX := L2.CX l.prog w) (sp := spV (CofK K) d.np (d.cf (glAt ds gs k))) KX gr.T.g gr.T.b gr.T.builtins gr.T.nolimit hg hobj hints (Nat.le_trans hlen (by decide)) hr (fun base _ _ => ?_) (x := x) (fun s u => ?_) (fun H hO hS => ?_) fun H e s' => cx_none
  · have := prog_ok (P := l.prog) (w := w) (base := base) (C := CofK K) D1 G1 k d hd f fd F
    rw [hps] at this
    exact this
  · have := DT.bindsA okd F s [u] (by rw [hps]; rfl)
    rw [hps] at this
    exact this
  · obtain ⟨ps, e⟩ := val ns hlen
    rw [hnp]
    exact entry_law hO hS e
end VL

set_option Elab.async false
set_option linter.all false
set_option maxRecDepth 100000
set_option maxHeartbeats 4000000
/-! How value programs run, step by step (for simp). -/
namespace VL
open PySem PySem.Spec L2

def fxOf (np : Nat) (re : List Nat) : Nat → Bool := fun i => decide (i < np) && !re.contains i
def Out.then {α β : Type} (o : Out α) (f : α → M β) : Out β := match o with
  | .ok a g => f a g
  | .exc x g => .exc x g
  | .stuck => .stuck
section
variable {α β : Type}
@[simp] theorem then_ok (a : α) (g : G) (f : α → M β) : (Out.ok a g).then f = f a g := rfl
@[simp] theorem then_exc (x : Ex) (g : G) (f : α → M β) : (Out.exc x g : Out α).then f = .exc x g := rfl
@[simp] theorem then_stuck (f : α → M β) : (Out.stuck : Out α).then f = .stuck := rfl
@[simp] theorem ev_pure (a : α) (g : G) : M.pure a g = .ok a g := rfl
@[simp] theorem ev_mstuck (g : G) : (M.stuck : M α) g = .stuck := rfl
end
variable (g : G)
@[simp] theorem settle_sh (d : D) : settle (.sh d) = .sh d := rfl
@[simp] theorem settle_ow (d : D) : settle (.ow d) = .sh d.fz := rfl
@[simp] theorem settle_pl (i : Nat) : settle (.pl i) = .pl i := rfl
def opdK (r : RV) : M RV := M.pure (settle r)
@[simp] theorem ev_opdK (r : RV) : opdK r g = .ok (settle r) g := rfl
@[simp] theorem ev_opd (m : M RV) : M.opd m g = (m g).then opdK := by unfold M.opd Out.then; cases m g <;> rfl
@[simp] theorem live_sh (d : D) : RV.live g (.sh d) = true := rfl
@[simp] theorem live_pl (i : Nat) : RV.live g (.pl i) = (g[i]?).join.isSome := rfl
@[simp] theorem at_sh (d : D) : RV.at g (.sh d) = some d := rfl
@[simp] theorem at_ow (d : D) : RV.at g (.ow d) = some d := rfl
@[simp] theorem at_pl (i : Nat) : RV.at g (.pl i) = (g[i]?).join := rfl
def two2 (x y : RV) : M (RV × RV) := fun g => if x.live g = true then .ok (x, y) g else .stuck
def two1 (b : M RV) (x : RV) : M (RV × RV) := fun g => (b g).then (two2 x)
@[simp] theorem ev_two2 (x y : RV) : two2 x y g = if x.live g = true then .ok (x, y) g else .stuck := rfl
@[simp] theorem ev_two1 (b : M RV) (x : RV) : two1 b x g = (b g).then (two2 x) := rfl
@[simp] theorem ev_two (a b : M RV) : M.two a b g = (a g).then (two1 b) := rfl
def outO (o : Option RV) : M RV := fun g => match o with
  | some rv => .ok rv g
  | none => .stuck
@[simp] theorem ev_outO_some (rv : RV) : outO (some rv) g = .ok rv g := rfl
@[simp] theorem ev_outO_none : outO none g = .stuck := rfl
def at2o (vf : D → D → Option RV) (a b : Option D) : M RV := fun g => match a, b with
  | some x, some y => outO (vf x y) g
  | _, _ => .stuck
@[simp] theorem ev_at2o (vf : D → D → Option RV) (x y : D) : at2o vf (some x) (some y) g = outO (vf x y) g := rfl
@[simp] theorem ev_at2 (vf : D → D → Option RV) (x y : RV) : M.at2 vf (x, y) g = at2o vf (x.at g) (y.at g) g := by
  unfold M.at2 at2o
  cases x.at g <;> cases y.at g <;> rfl
@[simp] theorem ev_op2 (vf : D → D → Option RV) (a b : M RV) : M.op2 vf a b g = (M.two a b g).then (M.at2 vf) := rfl
def slotK (i : Nat) (o : Option (Option D)) : M RV := fun g => match o with
  | some (some d) => if d.own = true then .ok (.pl i) g else .ok (.sh d) g
  | _ => .stuck
@[simp] theorem ev_slotK (i : Nat) (d : D) : slotK i (some (some d)) g = if d.own = true then .ok (.pl i) g else .ok (.sh d) g := rfl
@[simp] theorem ev_slot (i : Nat) : M.slot i g = slotK i g[i]? g := rfl
@[simp] theorem own_obj (o : Bool) (s : Sh) (xs : List D) : D.own (.obj o s xs) = o := rfl
@[simp] theorem own_int (i : Int) : D.own (.int i) = false := rfl
@[simp] theorem own_str (i : Str) : D.own (.str i) = false := rfl
@[simp] theorem own_bl (i : Bool) : D.own (.bl i) = false := rfl
@[simp] theorem own_non : D.own .non = false := rfl
@[simp] theorem own_ty (n : String) : D.own (.ty n) = false := rfl
@[simp] theorem own_fz (d : D) : d.fz.own = false := fz_own d
def toBK (r : RV) : M Bool := fun g => match r with
  | .sh (.bl b) => .ok b g
  | _ => .stuck
@[simp] theorem ev_toBK (b : Bool) : toBK (.sh (.bl b)) g = .ok b g := rfl
@[simp] theorem ev_toB (m : M RV) : M.toB m g = (m g).then toBK := by
  unfold M.toB Out.then toBK
  cases m g with
  | ok r g' => cases r with
    | sh d => cases d <;> rfl
    | _ => rfl
  | _ => rfl
def notK (b : Bool) : M Bool := M.pure (!b)
@[simp] theorem ev_notK (b : Bool) : notK b g = .ok (!b) g := rfl
@[simp] theorem ev_notB (m : M Bool) : M.notB m g = (m g).then notK := rfl
def andK (k : M Bool) (b : Bool) : M Bool := if b = true then k else M.pure false
@[simp] theorem ev_andK (k : M Bool) (b : Bool) : andK k b g = if b = true then k g else .ok false g := by unfold andK; split <;> rfl
@[simp] theorem ev_andB (m k : M Bool) : M.andB m k g = (m g).then (andK k) := rfl
def orK (k : M Bool) (b : Bool) : M Bool := if b = true then M.pure true else k
@[simp] theorem ev_orK (k : M Bool) (b : Bool) : orK k b g = if b = true then .ok true g else k g := by unfold orK; split <;> rfl
@[simp] theorem ev_orB (m k : M Bool) : M.orB m k g = (m g).then (orK k) := rfl
def ofK (b : Bool) : M RV := M.pure (.sh (.bl b))
@[simp] theorem ev_ofK (b : Bool) : ofK b g = .ok (.sh (.bl b)) g := rfl
@[simp] theorem ev_ofB (m : M Bool) : M.ofB m g = (m g).then ofK := rfl
def andEK (k : M RV) (b : Bool) : M RV := if b = true then k else M.pure (.sh (.bl false))
@[simp] theorem ev_andEK (k : M RV) (b : Bool) : andEK k b g = if b = true then k g else .ok (.sh (.bl false)) g := by unfold andEK; split <;> rfl
@[simp] theorem ev_andE (m k : M RV) : M.andE m k g = (M.toB m g).then (andEK k) := rfl
def orEK (k : M RV) (b : Bool) : M RV := if b = true then M.pure (.sh (.bl true)) else k
@[simp] theorem ev_orEK (k : M RV) (b : Bool) : orEK k b g = if b = true then .ok (.sh (.bl true)) g else k g := by unfold orEK; split <;> rfl
@[simp] theorem ev_orE (m k : M RV) : M.orE m k g = (M.toB m g).then (orEK k) := rfl
def iteK (a b : M RV) (z : Bool) : M RV := if z = true then a else b
@[simp] theorem ev_iteK (a b : M RV) (z : Bool) : iteK a b z g = if z = true then a g else b g := by unfold iteK; split <;> rfl
@[simp] theorem ev_mite (c : M Bool) (a b : M RV) : M.ite c a b g = (c g).then (iteK a b) := rfl
def negK (r : RV) : M RV := match r with
  | .sh (.int i) => M.pure (.sh (.int (-i)))
  | _ => M.stuck
@[simp] theorem ev_negK (i : Int) : negK (.sh (.int i)) g = .ok (.sh (.int (-i))) g := rfl
@[simp] theorem ev_neg (m : M RV) : M.neg m g = (m g).then negK := rfl
/-! argument lists -/
def consK2 (x : RV) (xs : List RV) : M (List RV) := fun g => if x.live g = true then .ok (x :: xs) g else .stuck
def consK (k : M (List RV)) (x : RV) : M (List RV) := fun g => (k g).then (consK2 x)
@[simp] theorem ev_consK2 (x : RV) (xs : List RV) : consK2 x xs g = if x.live g = true then .ok (x :: xs) g else .stuck := rfl
@[simp] theorem ev_consK (k : M (List RV)) (x : RV) : consK k x g = (k g).then (consK2 x) := rfl
@[simp] theorem ev_cons (m : M RV) (k : M (List RV)) : M.cons m k g = (m g).then (consK k) := rfl
def argP (i : Nat) (o : Option (Option D)) : Option (D × Option Nat) := match o with
  | some (some d) => some (d, if d.own = true then some i else none)
  | _ => none
@[simp] theorem ev_argP (i : Nat) (d : D) : argP i (some (some d)) = some (d, if d.own = true then some i else none) := rfl
@[simp] theorem argOf_sh (d : D) : argOf g (.sh d) = some (d, none) := rfl
@[simp] theorem argOf_pl (i : Nat) : argOf g (.pl i) = argP i g[i]? := rfl
def argsC (a : Option (D × Option Nat)) (b : Option (List D × List (Option Nat))) : Option (List D × List (Option Nat)) := match a, b with
  | some (d, i), some (ds, is) => some (d :: ds, i :: is)
  | _, _ => none
@[simp] theorem ev_argsC (d : D) (i : Option Nat) (ds : List D) (is : List (Option Nat)) : argsC (some (d, i)) (some (ds, is)) = some (d :: ds, i :: is) := rfl
@[simp] theorem argsOf_nil : argsOf g [] = some ([], []) := rfl
@[simp] theorem argsOf_cons (r : RV) (rs : List RV) : argsOf g (r :: rs) = argsC (argOf g r) (argsOf g rs) := by
  rw [argsOf]
  unfold argsC
  cases argOf g r with
  | none => rfl
  | some p => cases argsOf g rs <;> rfl
def callR (is : List (Option Nat)) (c : CO) : M RV := fun g => match c with
  | .ok d ps => .ok d.rv (wb is ps g)
  | .exc x ps => .exc x (wb is ps g)
  | .stuck => .stuck
@[simp] theorem ev_callR (is : List (Option Nat)) (d : D) (ps : List (Option D)) : callR is (.ok d ps) g = .ok d.rv (wb is ps g) := rfl
@[simp] theorem ev_callRx (is : List (Option Nat)) (x : Ex) (ps : List (Option D)) : callR is (.exc x ps) g = .exc x (wb is ps g) := rfl
def callA (cf : List D → CO) (o : Option (List D × List (Option Nat))) : M RV := fun g => match o with
  | some (ds, is) => if once is = true then callR is (cf ds) g else .stuck
  | none => .stuck
@[simp] theorem ev_callA (cf : List D → CO) (ds : List D) (is : List (Option Nat)) : callA cf (some (ds, is)) g = if once is = true then callR is (cf ds) g else .stuck := rfl
@[simp] theorem ev_callD (cf : List D → CO) (rs : List RV) : M.callD cf rs g = callA cf (argsOf g rs) g := by
  unfold M.callD callA callR
  cases argsOf g rs with
  | none => rfl
  | some p => first | rfl | (dsimp only; split <;> first | rfl | (cases cf p.1 <;> rfl))
@[simp] theorem ev_call (cf : List D → CO) (m : M (List RV)) : M.call cf m g = (m g).then (M.callD cf) := rfl
@[simp] theorem once_nil : once [] = true := rfl
@[simp] theorem once_none (is : List (Option Nat)) : once (none :: is) = once is := rfl
@[simp] theorem once_some (i : Nat) (is : List (Option Nat)) : once (some i :: is) = (!is.contains (some i) && once is) := rfl
@[simp] theorem wb_nil (ps : List (Option D)) : wb [] ps g = g := by unfold wb; rfl
@[simp] theorem wb_none (is : List (Option Nat)) (p : Option D) (ps : List (Option D)) : wb (none :: is) (p :: ps) g = wb is ps g := rfl
@[simp] theorem wb_some (i : Nat) (is : List (Option Nat)) (p : Option D) (ps : List (Option D)) : wb (some i :: is) (p :: ps) g = wb is ps (g.set i p) := rfl
@[simp] theorem rv_own (s : Sh) (xs : List D) : D.rv (.obj true s xs) = .ow (.obj true s xs) := rfl
@[simp] theorem rv_sh (s : Sh) (xs : List D) : D.rv (.obj false s xs) = .sh (.obj false s xs) := rfl
@[simp] theorem rv_int (i : Int) : D.rv (.int i) = .sh (.int i) := rfl
@[simp] theorem rv_str (i : Str) : D.rv (.str i) = .sh (.str i) := rfl
@[simp] theorem rv_bl (i : Bool) : D.rv (.bl i) = .sh (.bl i) := rfl
@[simp] theorem rv_non : D.rv .non = .sh .non := rfl
theorem rv_shd {d : D} (h : d.own = false) : d.rv = .sh d := by unfold D.rv; rw [h]; rfl
def viewsC (a : Option D) (b : Option (List D)) : Option (List D) := match a, b with
  | some d, some ds => some (d :: ds)
  | _, _ => none
@[simp] theorem ev_viewsC (d : D) (ds : List D) : viewsC (some d) (some ds) = some (d :: ds) := rfl
@[simp] theorem views_nil : viewsOf g [] = some [] := rfl
@[simp] theorem views_cons (r : RV) (rs : List RV) : viewsOf g (r :: rs) = viewsC (r.at g) (viewsOf g rs) := by
  rw [viewsOf]
  unfold viewsC
  cases r.at g <;> cases viewsOf g rs <;> rfl
def viewA (vf : List D → Option RV) (o : Option (List D)) : M RV := fun g => match o with
  | some ds => outO (vf ds) g
  | none => .stuck
@[simp] theorem ev_viewA (vf : List D → Option RV) (ds : List D) : viewA vf (some ds) g = outO (vf ds) g := rfl
@[simp] theorem ev_viewD (vf : List D → Option RV) (rs : List RV) : M.viewD vf rs g = viewA vf (viewsOf g rs) g := by
  unfold M.viewD viewA outO
  cases viewsOf g rs <;> rfl
@[simp] theorem ev_fn (vf : List D → Option RV) (m : M (List RV)) : M.fn vf m g = (m g).then (M.viewD vf) := rfl
/-! displays -/
@[simp] theorem store_sh (d : D) : M.store (.sh d) g = .ok d g := rfl
@[simp] theorem store_ow (d : D) : M.store (.ow d) g = .ok d.fz g := rfl
def storeK (i : Nat) (o : Option (Option D)) : M D := fun g => match o with
  | some (some d) => .ok d.fz (g.set i (some d.fz))
  | _ => .stuck
@[simp] theorem ev_storeK (i : Nat) (d : D) : storeK i (some (some d)) g = .ok d.fz (g.set i (some d.fz)) := rfl
@[simp] theorem store_pl (i : Nat) : M.store (.pl i) g = storeK i g[i]? g := rfl
def storesK2 (d : D) (ds : List D) : M (List D) := M.pure (d :: ds)
@[simp] theorem ev_storesK2 (d : D) (ds : List D) : storesK2 d ds g = .ok (d :: ds) g := rfl
def storesK (r : List RV) (d : D) : M (List D) := fun g => (M.stores r g).then (storesK2 d)
@[simp] theorem ev_storesK (r : List RV) (d : D) : storesK r d g = (M.stores r g).then (storesK2 d) := rfl
@[simp] theorem stores_nil : M.stores [] g = .ok [] g := rfl
@[simp] theorem stores_cons (rv : RV) (r : List RV) : M.stores (rv :: r) g = (M.store rv g).then (storesK r) := rfl
@[simp] theorem ev_mkLst (ds : List D) : mkLst ds g = if ds.length ≤ sizeLine then .ok (.ow (.obj true .lst ds)) g else .stuck := rfl
@[simp] theorem ev_mkTup (ds : List D) : mkTup ds g = if ds.length ≤ sizeLine then .ok (.sh (.obj false .tup ds)) g else .stuck := rfl
def listK (rs : List RV) : M RV := fun g => (M.stores rs g).then mkLst
def tupK (rs : List RV) : M RV := fun g => (M.stores rs g).then mkTup
@[simp] theorem ev_listK (rs : List RV) : listK rs g = (M.stores rs g).then mkLst := rfl
@[simp] theorem ev_tupK (rs : List RV) : tupK rs g = (M.stores rs g).then mkTup := rfl
@[simp] theorem ev_list (m : M (List RV)) : M.list m g = (m g).then listK := rfl
@[simp] theorem ev_tuple (m : M (List RV)) : M.tuple m g = (m g).then tupK := rfl
/-! what is walked -/
def iterK (d : D) : M (List D) := M.of d.walk
def outL (o : Option (List D)) : M (List D) := M.of o
@[simp] theorem ev_outL (ds : List D) : outL (some ds) g = .ok ds g := rfl
@[simp] theorem ev_iterK (d : D) : iterK d g = outL d.walk g := rfl
def iterK1 (r : RV) : M D := M.store r
@[simp] theorem ev_iter (m : M RV) : M.iter m g = ((m g).then M.store).then iterK := rfl
@[simp] theorem walk_lst (xs : List D) : D.walk (.obj false .lst xs) = some xs := rfl
@[simp] theorem walk_frz (xs : List D) : D.walk (.obj false .frz xs) = some xs := rfl
@[simp] theorem walk_tup (xs : List D) : D.walk (.obj false .tup xs) = some xs := rfl
@[simp] theorem walk_str (x : Str) : D.walk (.str x) = some (signs x) := rfl
def rng1K (r : RV) : M (List D) := match r with
  | .sh (.int j) => if -(2 ^ 62) ≤ j ∧ j < 2 ^ 62 then M.pure ((List.range j.toNat).map fun (k : Nat) => .int (0 + (k : Int))) else M.stuck
  | _ => M.stuck
@[simp] theorem ev_rng1K (j : Int) (h : -4611686018427387904 ≤ j ∧ j < 4611686018427387904) : rng1K (.sh (.int j)) g = .ok ((List.range j.toNat).map fun (k : Nat) => .int (k : Int)) g := by
  show (if -(2 ^ 62) ≤ j ∧ j < 2 ^ 62 then M.pure ((List.range j.toNat).map fun (k : Nat) => D.int (0 + (k : Int))) else M.stuck) g = _
  rw [if_pos (show -(2 ^ 62 : Int) ≤ j ∧ j < 2 ^ 62 from h)]
  simp only [Int.zero_add]
  rfl
@[simp] theorem ev_rng1 (m : M RV) : M.rng1 m g = (m g).then rng1K := rfl
/-! slices, methods -/
def partK (r : RV) : M (Option Int) := match r with
  | .sh (.int i) => M.pure (some i)
  | _ => M.stuck
@[simp] theorem ev_partK (i : Int) : partK (.sh (.int i)) g = .ok (some i) g := rfl
@[simp] theorem ev_part (m : M RV) : M.part m g = (m g).then partK := rfl
def slO (lo hi : Option Int) (o : Option D) : M RV := fun g => match o with
  | some d => outO (vSl lo hi d) g
  | none => .stuck
@[simp] theorem ev_slO (lo hi : Option Int) (d : D) : slO lo hi (some d) g = outO (vSl lo hi d) g := rfl
def slK3 (x : RV) (lo hi : Option Int) : M RV := fun g => if x.live g = true then slO lo hi (x.at g) g else .stuck
def slK2 (x : RV) (h : M (Option Int)) (lo : Option Int) : M RV := fun g => (h g).then (slK3 x lo)
def slK (l h : M (Option Int)) (x : RV) : M RV := fun g => (l g).then (slK2 x h)
@[simp] theorem ev_slK3 (x : RV) (lo hi : Option Int) : slK3 x lo hi g = if x.live g = true then slO lo hi (x.at g) g else .stuck := rfl
@[simp] theorem ev_slK2 (x : RV) (h : M (Option Int)) (lo : Option Int) : slK2 x h lo g = (h g).then (slK3 x lo) := rfl
@[simp] theorem ev_slK (l h : M (Option Int)) (x : RV) : slK l h x g = (l g).then (slK2 x h) := rfl
@[simp] theorem ev_sl (a : M RV) (l h : M (Option Int)) : M.sl a l h g = (a g).then (slK l h) := by
  show M.bind a _ g = _
  unfold M.bind Out.then slK
  cases a g with
  | ok x g1 =>
    dsimp only
    unfold Out.then slK2
    cases l g1 with
    | ok lo g2 =>
      dsimp only
      unfold Out.then slK3
      cases h g2 with
      | ok hi g3 =>
        dsimp only
        split
        · unfold slO outO; cases x.at g3 <;> rfl
        · rfl
      | _ => rfl
    | _ => rfl
  | _ => rfl
def revO (o : Option D) : M RV := fun g => match o with
  | some d => outO (vRev d) g
  | none => .stuck
@[simp] theorem ev_revO (d : D) : revO (some d) g = outO (vRev d) g := rfl
def revK (x : RV) : M RV := fun g => revO (x.at g) g
@[simp] theorem ev_revK (x : RV) : revK x g = revO (x.at g) g := rfl
@[simp] theorem ev_rev (a : M RV) : M.rev a g = (a g).then revK := by
  show M.bind a _ g = _
  unfold M.bind Out.then revK revO outO
  cases a g with
  | ok x g1 => first | rfl | (dsimp only; cases x.at g1 <;> rfl)
  | _ => rfl
/-! ### statements -/
def Fl.then (f : Fl) (k : S) : Fl := match f with
  | .nx g => k g
  | r => r
@[simp] theorem fthen_nx (k : S) : (Fl.nx g).then k = k g := rfl
@[simp] theorem fthen_ret (rv : RV) (k : S) : (Fl.ret rv g).then k = .ret rv g := rfl
@[simp] theorem fthen_brk (k : S) : (Fl.brk g).then k = .brk g := rfl
@[simp] theorem fthen_cont (k : S) : (Fl.cont g).then k = .cont g := rfl
@[simp] theorem fthen_exc (x : Ex) (k : S) : (Fl.exc x g).then k = .exc x g := rfl
@[simp] theorem fthen_stuck (k : S) : Fl.stuck.then k = .stuck := rfl
@[simp] theorem ev_nop : S.nop g = .nx g := rfl
@[simp] theorem ev_seq (m k : S) : S.seq m k g = (m g).then k := rfl
def Out.fl {α : Type} (o : Out α) (f : α → S) : Fl := match o with
  | .ok a g => f a g
  | .exc x g => .exc x g
  | .stuck => .stuck
@[simp] theorem fl_ok {α : Type} (a : α) (f : α → S) : (Out.ok a g).fl f = f a g := rfl
@[simp] theorem fl_exc {α : Type} (x : Ex) (f : α → S) : (Out.exc x g : Out α).fl f = .exc x g := rfl
def siteK (a b : S) (z : Bool) : S := if z = true then a else b
@[simp] theorem ev_siteK (a b : S) (z : Bool) : siteK a b z g = if z = true then a g else b g := by unfold siteK; split <;> rfl
@[simp] theorem ev_site (c : M Bool) (a b : S) : S.ite c a b g = (c g).fl (siteK a b) := by
  unfold S.ite Out.fl
  cases c g with
  | ok z g' => cases z <;> rfl
  | _ => rfl
@[simp] theorem ev_asg (Fx : Nat → Bool) (kp : Bool) (i : Nat) (m : M RV) : S.asg Fx kp i m g = (m g).fl (S.put Fx kp i) := by
  unfold S.asg Out.fl
  cases m g <;> rfl
@[simp] theorem put_sh (Fx : Nat → Bool) (kp : Bool) (i : Nat) (d : D) : S.put Fx kp i (.sh d) g = if Fx i = true then .stuck else .nx (g.set i (some d)) := by unfold S.put; split <;> rfl
@[simp] theorem put_ow (Fx : Nat → Bool) (kp : Bool) (i : Nat) (d : D) : S.put Fx kp i (.ow d) g = if Fx i = true then .stuck else .nx (g.set i (some (if kp = true then d else d.fz))) := by unfold S.put; split <;> rfl
def dropK : S := fun g => .nx g
@[simp] theorem ev_drop (m : M RV) : S.drop m g = (m g).fl fun _ => S.nop := by
  unfold S.drop Out.fl
  cases m g <;> rfl
def retP (np i : Nat) (o : Option (Option D)) : S := fun g => match o with
  | some (some d) => if i < np then .ret (.sh d.fz) (g.set i (some d.fz)) else .ret (.ow d) (g.set i none)
  | _ => .stuck
@[simp] theorem ev_retP (np i : Nat) (d : D) : retP np i (some (some d)) g = if i < np then .ret (.sh d.fz) (g.set i (some d.fz)) else .ret (.ow d) (g.set i none) := rfl
def retK (np : Nat) (rv : RV) : S := fun g => match rv with
  | .pl i => retP np i g[i]? g
  | rv => .ret rv g
@[simp] theorem retK_sh (np : Nat) (d : D) : retK np (.sh d) g = .ret (.sh d) g := rfl
@[simp] theorem retK_ow (np : Nat) (d : D) : retK np (.ow d) g = .ret (.ow d) g := rfl
@[simp] theorem retK_pl (np i : Nat) : retK np (.pl i) g = retP np i g[i]? g := rfl
@[simp] theorem ev_ret (np : Nat) (m : M RV) : S.ret np m g = (m g).fl (retK np) := by
  unfold S.ret Out.fl retK retP
  cases m g with
  | ok rv g' => cases rv <;> rfl
  | _ => rfl
def subP (i : Nat) (d : D) (kd : Option D) (o : Option (Option D)) : S := fun g => match kd, o with
  | some kd, some (some (.obj true s xs)) => (match putAt s xs kd d with
    | some (s', xs') => .nx (g.set i (some (.obj true s' xs')))
    | none => .stuck)
  | _, _ => .stuck
def subQ (i : Nat) (o : Option (Sh × List D)) : S := fun g => match o with
  | some (s', xs') => .nx (g.set i (some (.obj true s' xs')))
  | none => .stuck
@[simp] theorem ev_subQ (i : Nat) (s : Sh) (xs : List D) : subQ i (some (s, xs)) g = .nx (g.set i (some (.obj true s xs))) := rfl
@[simp] theorem ev_subP (i : Nat) (d kd : D) (s : Sh) (xs : List D) : subP i d (some kd) (some (some (.obj true s xs))) g = subQ i (putAt s xs kd d) g := by
  unfold subP subQ
  rfl
def subF (i : Nat) (p : D × RV) : S := fun g => if p.2.live g = true then subP i p.1 (p.2.at g) g[i]? g else .stuck
@[simp] theorem ev_subF (i : Nat) (d : D) (y : RV) : subF i (d, y) g = if y.live g = true then subP i d (y.at g) g[i]? g else .stuck := rfl
def subK4 (y : RV) (d : D) : M (D × RV) := M.pure (d, y)
@[simp] theorem ev_subK4 (y : RV) (d : D) : subK4 y d g = .ok (d, y) g := rfl
def subK3 (x y : RV) : M (D × RV) := fun g => if x.live g = true then (M.store x g).then (subK4 y) else .stuck
def subK2 (k : M RV) (x _y : RV) : M (D × RV) := fun g => (k g).then (subK3 x)
def subK (i : Nat) (k : M RV) (x : RV) : M (D × RV) := fun g => (M.slot i g).then (subK2 k x)
@[simp] theorem ev_subK3 (x y : RV) : subK3 x y g = if x.live g = true then (M.store x g).then (subK4 y) else .stuck := rfl
@[simp] theorem ev_subK2 (k : M RV) (x y : RV) : subK2 k x y g = (k g).then (subK3 x) := rfl
@[simp] theorem ev_subK (i : Nat) (k : M RV) (x : RV) : subK i k x g = (M.slot i g).then (subK2 k x) := rfl
@[simp] theorem ev_sub (i : Nat) (a k : M RV) : S.sub i a k g = ((M.opd a g).then (subK i k)).fl (subF i) := by
  have e : M.bind (M.opd a) (fun x => M.bind (M.slot i) fun _ => M.bind k fun y => fun g => if x.live g = true then M.bind (M.store x) (fun d => fun g => .ok (d, y) g) g else .stuck) g = (M.opd a g).then (subK i k) := rfl
  unfold S.sub
  rw [e]
  unfold Out.fl
  cases (M.opd a g).then (subK i k) with
  | ok p g' =>
    obtain ⟨d, y⟩ := p
    dsimp only
    unfold subF subP
    rfl
  | _ => rfl
@[simp] theorem ev_for (f : D → G → Option G) (b : S) (m : M (List D)) : S.for_ f b m g = (m g).fl (fun ds => S.forL f b ds) := by
  unfold S.for_ Out.fl
  cases m g <;> rfl
/-! ### built-in operations on what is known -/
@[simp] theorem le_ii (i j : Int) : vLe (.int i) (.int j) = some (.sh (.bl (decide (i ≤ j)))) := rfl
@[simp] theorem lt_ii (i j : Int) : vLt (.int i) (.int j) = some (.sh (.bl (decide (i < j)))) := rfl
@[simp] theorem gt_ii (i j : Int) : vGt (.int i) (.int j) = some (.sh (.bl (decide (j < i)))) := rfl
@[simp] theorem ge_ii (i j : Int) : vGe (.int i) (.int j) = some (.sh (.bl (decide (j ≤ i)))) := rfl
@[simp] theorem add_ii (i j : Int) : vAdd (.int i) (.int j) = some (.sh (.int (i + j))) := rfl
@[simp] theorem sub_ii (i j : Int) : vSub (.int i) (.int j) = some (.sh (.int (i - j))) := rfl
@[simp] theorem int_i (i : Int) : vInt [.int i] = some (.sh (.int i)) := rfl
@[simp] theorem eq_ii (i j : Int) : vEq (.int i) (.int j) = some (.sh (.bl (decide (i = j)))) := by
  unfold vEq D.scal
  simp [L2.scal]
@[simp] theorem ne_ii (i j : Int) : vNe (.int i) (.int j) = some (.sh (.bl (!decide (i = j)))) := by
  unfold vNe D.scal
  simp [L2.scal]
theorem mod_ii (i j : Int) (h : 0 < j) : vMod (.int i) (.int j) = some (.sh (.int (i % j))) := if_pos h
theorem fdiv_ii (i j : Int) (h : 0 < j) (h2 : j.natAbs.log2 < 9000) : vFdiv (.int i) (.int j) = some (.sh (.int (i / j))) := if_pos (.inr ⟨h, h2⟩)
theorem mul_ii (i j : Int) (h : okMul i j = true) : vMul (.int i) (.int j) = some (.sh (.int (i * j))) := if_pos (.inl h)
theorem okMul_r (i j : Int) (h : -(2 ^ 64) < j ∧ j < 2 ^ 64) : okMul i j = true := by unfold okMul; rw [decide_eq_true h, Bool.or_true]
theorem okMul_l (i j : Int) (h : -(2 ^ 64) < i ∧ i < 2 ^ 64) : okMul i j = true := by unfold okMul; rw [decide_eq_true h, Bool.true_or]
@[simp] theorem ix_lst (o : Bool) (xs : List D) (i : Int) : vIx (.obj o .lst xs) (.int i) = at0 (L2.atI xs i) := rfl
@[simp] theorem ix_tup (o : Bool) (xs : List D) (i : Int) : vIx (.obj o .tup xs) (.int i) = at0 (L2.atI xs i) := rfl
@[simp] theorem at0_some' (d : D) : at0 (some d) = if d.own = true then none else some (.sh d) := rfl
@[simp] theorem len_lst (o : Bool) (xs : List D) : vLen [.obj o .lst xs] = some (.sh (.int xs.length)) := rfl
@[simp] theorem len_frz (o : Bool) (xs : List D) : vLen [.obj o .frz xs] = some (.sh (.int xs.length)) := rfl
@[simp] theorem len_tup (o : Bool) (xs : List D) : vLen [.obj o .tup xs] = some (.sh (.int xs.length)) := rfl
theorem len_str (s : Str) (h : s.length ≤ sizeLine) : vLen [.str s] = some (.sh (.int s.length)) := if_pos h
theorem atI_nat {α : Type} (xs : List α) (n : Nat) : L2.atI xs (n : Int) = xs[n]? := by
  unfold L2.atI ixN
  rw [if_pos (Int.natCast_nonneg n)]
  by_cases h : n < xs.length
  · rw [if_pos (by omega)]; simp
  · rw [if_neg (by omega)]
    simp [List.getElem?_eq_none (Nat.le_of_not_lt h)]
theorem atI_pos {α : Type} (xs : List α) (i : Int) (h : 0 ≤ i) : L2.atI xs i = xs[i.toNat]? := by
  have := atI_nat xs i.toNat
  rwa [Int.toNat_of_nonneg h] at this
@[simp] theorem atI_lit {α : Type} (xs : List α) (n : Nat) : L2.atI xs (no_index (OfNat.ofNat n : Int)) = xs[n]? := atI_nat xs n
theorem put_nat (xs : List D) (n : Nat) (d : D) (h : n < xs.length) : putAt .lst xs (.int n) d = some (.lst, xs.set n d) := by
  show (ixN xs.length n).map _ = _
  unfold ixN
  rw [if_pos (Int.natCast_nonneg n), if_pos (by omega)]
  simp
@[simp] theorem put_lit (xs : List D) (n : Nat) (d : D) : putAt .lst xs (.int (no_index (OfNat.ofNat n : Int))) d = if n < xs.length then some (.lst, xs.set n d) else none := by
  split
  · rename_i h; exact put_nat xs n d h
  · rename_i h
    show (ixN xs.length (n : Int)).map _ = _
    unfold ixN
    rw [if_pos (Int.natCast_nonneg n), if_neg (by omega)]
    rfl
end VL

set_option Elab.async false
set_option linter.all false
set_option maxRecDepth 100000
set_option maxHeartbeats 4000000
/-! The drawers that the laws share: their value programs, what they do. -/
namespace VL.Dr
open PySem PySem.Spec L2 VL
def store : S := (S.seq (S.asg (fxOf 1 []) false 1 (M.op2 vAdd (M.opd (M.pure (.sh (.int 5)))) (M.opd (M.op2 vMul (M.opd (M.pure (.sh (.int 1009)))) (M.opd (M.fn vLen (M.cons (M.opd (M.slot 0)) (M.pure []))))))))
    (S.seq (S.for_ (Tgt.put (fxOf 1 []) (.slot 2)) (S.seq (S.asg (fxOf 1 []) false 1 (M.op2 vAdd (M.opd (M.slot 1)) (M.opd (M.op2 vMod (M.opd (M.fn vInt (M.cons (M.opd (M.slot 2)) (M.pure [])))) (M.opd (M.pure (.sh (.int 1000003))))))))
    S.nop) (M.iter (M.opd (M.slot 0))))
    (S.seq (S.ret 1 (M.list (M.cons (M.opd (M.fn vList (M.cons (M.opd (M.slot 0)) (M.pure [])))) (M.cons (M.opd (M.pure (.sh (.int 0)))) (M.cons (M.opd (M.pure (.sh (.int 0)))) (M.cons (M.opd (M.pure (.sh (.int 0)))) (M.cons (M.opd (M.pure (.sh (.int 0)))) (M.cons (M.opd (M.pure (.sh (.int 0)))) (M.cons (M.opd (M.op2 vMod (M.opd (M.fn vInt (M.cons (M.opd (M.slot 1)) (M.pure [])))) (M.opd (M.pure (.sh (.int 1000003)))))) (M.pure []))))))))))
    S.nop)))
def next : S := (S.seq (S.ite (M.toB (M.op2 vGe (M.opd (M.op2 vIx (M.opd (M.slot 0)) (M.opd (M.pure (.sh (.int 1)))))) (M.opd (M.fn vLen (M.cons (M.opd (M.op2 vIx (M.opd (M.slot 0)) (M.opd (M.pure (.sh (.int 0)))))) (M.pure [])))))) (S.seq (S.sub 0 (M.op2 vIx (M.opd (M.slot 0)) (M.opd (M.pure (.sh (.int 6))))) (M.opd (M.pure (.sh (.int 4)))))
    (S.seq (S.sub 0 (M.pure (.sh (.int 9999))) (M.opd (M.pure (.sh (.int 5)))))
    (S.seq (S.ret 1 (M.pure (.sh .non)))
    S.nop))) S.nop)
    (S.seq (S.asg (fxOf 1 []) false 1 (M.fn vInt (M.cons (M.opd (M.op2 vIx (M.opd (M.op2 vIx (M.opd (M.slot 0)) (M.opd (M.pure (.sh (.int 0)))))) (M.opd (M.op2 vIx (M.opd (M.slot 0)) (M.opd (M.pure (.sh (.int 1)))))))) (M.pure []))))
    (S.seq (S.sub 0 (M.op2 vAdd (M.opd (M.op2 vIx (M.opd (M.slot 0)) (M.opd (M.pure (.sh (.int 1)))))) (M.opd (M.pure (.sh (.int 1))))) (M.opd (M.pure (.sh (.int 1)))))
    (S.seq (S.ite (M.toB (M.op2 vGe (M.opd (M.slot 1)) (M.opd (M.op2 vPow (M.opd (M.pure (.sh (.int 10)))) (M.opd (M.pure (.sh (.int 18)))))))) (S.seq (S.sub 0 (M.slot 1) (M.opd (M.pure (.sh (.int 2)))))
    S.nop) (S.seq (S.sub 0 (M.op2 vMod (M.opd (M.slot 1)) (M.opd (M.pure (.sh (.int 1000003))))) (M.opd (M.pure (.sh (.int 4)))))
    (S.seq (S.sub 0 (M.pure (.sh (.int 3))) (M.opd (M.pure (.sh (.int 5)))))
    S.nop)))
    (S.seq (S.ret 1 (M.pure (.sh .non)))
    S.nop)))))
def raw : S := (S.seq (S.sub 0 (M.op2 vAdd (M.opd (M.op2 vIx (M.opd (M.slot 0)) (M.opd (M.pure (.sh (.int 3)))))) (M.opd (M.pure (.sh (.int 1))))) (M.opd (M.pure (.sh (.int 3)))))
    (S.seq (S.asg (fxOf 1 []) false 1 (M.op2 vMod (M.opd (M.fn vInt (M.cons (M.opd (M.op2 vAdd (M.opd (M.op2 vAdd (M.opd (M.op2 vMul (M.opd (M.op2 vIx (M.opd (M.slot 0)) (M.opd (M.pure (.sh (.int 4)))))) (M.opd (M.pure (.sh (.int 613)))))) (M.opd (M.op2 vMul (M.opd (M.op2 vIx (M.opd (M.slot 0)) (M.opd (M.pure (.sh (.int 3)))))) (M.opd (M.pure (.sh (.int 7919)))))))) (M.opd (M.pure (.sh (.int 101)))))) (M.pure [])))) (M.opd (M.pure (.sh (.int 1000003))))))
    (S.seq (S.asg (fxOf 1 []) false 2 (M.op2 vMod (M.opd (M.fn vInt (M.cons (M.opd (M.op2 vAdd (M.opd (M.op2 vMul (M.opd (M.slot 1)) (M.opd (M.slot 1)))) (M.opd (M.op2 vIx (M.opd (M.slot 0)) (M.opd (M.pure (.sh (.int 3)))))))) (M.pure [])))) (M.opd (M.pure (.sh (.int 999983))))))
    (S.seq (S.ret 1 (M.op2 vMod (M.opd (M.fn vInt (M.cons (M.opd (M.op2 vAdd (M.opd (M.op2 vMul (M.opd (M.slot 2)) (M.opd (M.slot 2)))) (M.opd (M.slot 1)))) (M.pure [])))) (M.opd (M.pure (.sh (.int 1000003))))))
    S.nop))))
def takeL (c_raw : List D → CO) : S := (S.seq (S.ite (M.toB (M.op2 vGe (M.opd (M.slot 3)) (M.opd (M.op2 vMul (M.opd (M.slot 1)) (M.opd (M.pure (.sh (.int 50)))))))) (S.seq (fun g => .brk g)
    S.nop) S.nop)
    (S.seq (S.asg (fxOf 2 []) false 2 (M.op2 vAdd (M.opd (M.op2 vMul (M.opd (M.slot 2)) (M.opd (M.pure (.sh (.int 1000003)))))) (M.opd (M.call c_raw (M.cons (M.opd (M.slot 0)) (M.pure []))))))
    (S.seq (S.asg (fxOf 2 []) false 3 (M.op2 vMul (M.opd (M.slot 3)) (M.opd (M.pure (.sh (.int 1000003))))))
    S.nop)))
def takeR (c_raw : List D → CO) : S := (S.seq (S.ite (M.toB (M.op2 vGt (M.opd (M.op2 vIx (M.opd (M.slot 0)) (M.opd (M.pure (.sh (.int 2)))))) (M.opd (M.pure (.sh (.int 0)))))) (S.seq (S.asg (fxOf 2 []) false 2 (M.op2 vMod (M.opd (M.fn vInt (M.cons (M.opd (M.op2 vIx (M.opd (M.slot 0)) (M.opd (M.pure (.sh (.int 2)))))) (M.pure [])))) (M.opd (M.slot 1))))
    (S.seq (S.sub 0 (M.op2 vFdiv (M.opd (M.fn vInt (M.cons (M.opd (M.op2 vIx (M.opd (M.slot 0)) (M.opd (M.pure (.sh (.int 2)))))) (M.pure [])))) (M.opd (M.slot 1))) (M.opd (M.pure (.sh (.int 2)))))
    (S.seq (S.ret 2 (M.slot 2))
    S.nop))) S.nop)
    (S.seq (S.sub 0 (M.op2 vSub (M.opd (M.op2 vIx (M.opd (M.slot 0)) (M.opd (M.pure (.sh (.int 5)))))) (M.opd (M.pure (.sh (.int 1))))) (M.opd (M.pure (.sh (.int 5)))))
    (S.seq (S.asg (fxOf 2 []) false 2 (M.pure (.sh (.int 0))))
    (S.seq (S.asg (fxOf 2 []) false 3 (M.pure (.sh (.int 1))))
    (S.seq (S.for_ (Tgt.put (fxOf 2 []) (.slot 4)) (takeL c_raw) (M.rng1 (M.opd (M.pure (.sh (.int 14))))))
    (S.seq (S.ret 2 (M.op2 vMod (M.opd (M.fn vInt (M.cons (M.opd (M.slot 2)) (M.pure [])))) (M.opd (M.slot 1))))
    S.nop))))))
def take (c_raw c_next : List D → CO) : S := (S.seq (S.ite (M.toB (M.op2 vLe (M.opd (M.slot 1)) (M.opd (M.pure (.sh (.int 1)))))) (S.seq (S.ret 2 (M.pure (.sh (.int 0))))
    S.nop) S.nop)
    (S.seq (S.ite (M.andB (M.toB (M.op2 vEq (M.opd (M.op2 vIx (M.opd (M.slot 0)) (M.opd (M.pure (.sh (.int 2)))))) (M.opd (M.pure (.sh (.int 0)))))) (M.toB (M.op2 vEq (M.opd (M.op2 vIx (M.opd (M.slot 0)) (M.opd (M.pure (.sh (.int 5)))))) (M.opd (M.pure (.sh (.int 0))))))) (S.seq (S.drop (M.call c_next (M.cons (M.opd (M.slot 0)) (M.pure []))))
    S.nop) S.nop)
    (takeR c_raw)))
def some_ (c_take : List D → CO) : S := (S.seq (S.ite (M.toB (M.op2 vLe (M.opd (M.slot 2)) (M.opd (M.slot 1)))) (S.seq (S.ret 3 (M.slot 1))
    S.nop) S.nop)
    (S.seq (S.asg (fxOf 3 []) false 3 (M.call c_take (M.cons (M.opd (M.slot 0)) (M.cons (M.opd (M.pure (.sh (.int 6)))) (M.pure [])))))
    (S.seq (S.ite (M.toB (M.op2 vEq (M.opd (M.slot 3)) (M.opd (M.pure (.sh (.int 0)))))) (S.seq (S.ret 3 (M.slot 1))
    S.nop) S.nop)
    (S.seq (S.ite (M.toB (M.op2 vEq (M.opd (M.slot 3)) (M.opd (M.pure (.sh (.int 1)))))) (S.seq (S.ret 3 (M.slot 2))
    S.nop) S.nop)
    (S.seq (S.ret 3 (M.op2 vAdd (M.opd (M.slot 1)) (M.opd (M.call c_take (M.cons (M.opd (M.slot 0)) (M.cons (M.opd (M.op2 vAdd (M.opd (M.op2 vSub (M.opd (M.slot 2)) (M.opd (M.slot 1)))) (M.opd (M.pure (.sh (.int 1)))))) (M.pure [])))))))
    S.nop)))))
def pick (c_take : List D → CO) : S := (S.seq (S.ret 2 (M.op2 vIx (M.opd (M.slot 1)) (M.opd (M.call c_take (M.cons (M.opd (M.slot 0)) (M.cons (M.opd (M.fn vLen (M.cons (M.opd (M.slot 1)) (M.pure [])))) (M.pure [])))))))
    S.nop)
@[simp] theorem range1 : List.range 1 = [0] := rfl
@[simp] theorem range2 : List.range 2 = [0, 1] := rfl
@[simp] theorem range3 : List.range 3 = [0, 1, 2] := rfl
@[simp] theorem range4 : List.range 4 = [0, 1, 2, 3] := rfl
@[simp] theorem range5 : List.range 5 = [0, 1, 2, 3, 4] := rfl
/-- the store -/
abbrev st (xs : List Int) (p b c s l t : Int) : D := .obj true .lst [.obj false .lst (xs.map D.int), .int p, .int b, .int c, .int s, .int l, .int t]
structure Ok (p b : Int) : Prop where
  p : 0 ≤ p
  b : 0 ≤ b
def NextOk (c : List D → CO) : Prop := ∀ xs p b n s l t, Ok p b → ∃ p' b' s' l', c [st xs p b n s l t] = .ok .non [some (st xs p' b' n s' l' t)] ∧ Ok p' b'
theorem next_ok : NextOk (runDef (fxOf 1 []) 1 1 next) := fun xs p b n s l t h => by
  by_cases hp : (xs.length : Int) ≤ p
  · refine ⟨p, b, t, 9999, ?_, h⟩
    simp [runDef, okArgs, next, fxOf, outs, hp]
  · have hp' : p.toNat < xs.length := by have := h.p; omega
    by_cases hv : 1000000000000000000 ≤ xs[p.toNat]
    · refine ⟨p + 1, xs[p.toNat], s, l, ?_, by have := h.p; omega, by omega⟩
      simp [runDef, okArgs, next, fxOf, outs, hp, atI_pos _ _ h.p, hp', vPow, hv]
    · refine ⟨p + 1, b, xs[p.toNat] % 1000003, 3, ?_, by have := h.p; omega, h.b⟩
      simp [runDef, okArgs, next, fxOf, outs, hp, atI_pos _ _ h.p, hp', vPow, hv, mod_ii]
def RawOk (c : List D → CO) : Prop := ∀ xs p b n s l t, ∃ r n', c [st xs p b n s l t] = .ok (.int r) [some (st xs p b n' s l t)] ∧ 0 ≤ r ∧ r < 1000003
theorem raw_ok : RawOk (runDef (fxOf 1 []) 1 2 raw) := fun xs p b n s l t => by
  have b1 := Int.emod_nonneg (s * 613 + (n + 1) * 7919 + 101) (show (1000003 : Int) ≠ 0 by decide)
  have b2 := Int.emod_lt_of_pos (s * 613 + (n + 1) * 7919 + 101) (show (0 : Int) < 1000003 by decide)
  generalize hx : (s * 613 + (n + 1) * 7919 + 101) % 1000003 = x at b1 b2
  have b3 := Int.emod_nonneg (x * x + (n + 1)) (show (999983 : Int) ≠ 0 by decide)
  have b4 := Int.emod_lt_of_pos (x * x + (n + 1)) (show (0 : Int) < 999983 by decide)
  generalize hy : (x * x + (n + 1)) % 999983 = y at b3 b4
  have m1 : vMul (.int s) (.int 613) = some (.sh (.int (s * 613))) := mul_ii _ _ (okMul_r _ _ (by decide))
  have m2 : vMul (.int (n + 1)) (.int 7919) = some (.sh (.int ((n + 1) * 7919))) := mul_ii _ _ (okMul_r _ _ (by decide))
  have m3 : vMul (.int x) (.int x) = some (.sh (.int (x * x))) := mul_ii _ _ (okMul_r _ _ (by omega))
  have m4 : vMul (.int y) (.int y) = some (.sh (.int (y * y))) := mul_ii _ _ (okMul_r _ _ (by omega))
  refine ⟨(y * y + x) % 1000003, n + 1, ?_, Int.emod_nonneg _ (by decide), Int.emod_lt_of_pos _ (by decide)⟩
  simp [runDef, okArgs, raw, fxOf, outs, mod_ii, m1, m2, m3, m4, hx, hy]
def TakeOk (c : List D → CO) : Prop := ∀ xs p b n s l t many, Ok p b → many.natAbs.log2 < 8000 → ∃ r p' b' n' s' l', c [st xs p b n s l t, .int many] = .ok (.int r) [some (st xs p' b' n' s' l' t), some (.int many)] ∧ Ok p' b' ∧ 0 ≤ r ∧ (1 ≤ many → r < many)
/-- a loop that keeps to what it may -/
theorem forL_inv {f : D → G → Option G} {b : S} {I : G → Prop} {g0 : G} : ∀ {ds : List D} {g : G}, I g → (∀ d ∈ ds, ∀ g, I g → ∃ g1, f d g = some g1 ∧ ((∃ g2, b g1 = .nx g2 ∧ I g2) ∨ (∃ g2, b g1 = .brk g2 ∧ I g2) ∨ ∃ g2, b g1 = .cont g2 ∧ I g2)) → ∃ g', S.forL f b ds g = .nx g' ∧ I g'
  | [], g, i, _ => ⟨g, rfl, i⟩
  | d :: ds, g, i, h => by
    obtain ⟨g1, e1, e2⟩ := h d (List.mem_cons_self ..) g i
    have ih : ∀ g2, I g2 → ∃ g', S.forL f b ds g2 = .nx g' ∧ I g' := fun g2 i2 => forL_inv (g0 := g0) i2 fun d' hd g i => h d' (List.mem_cons_of_mem _ hd) g i
    unfold S.forL
    rw [e1]
    dsimp only
    rcases e2 with ⟨g2, e2, i2⟩ | ⟨g2, e2, i2⟩ | ⟨g2, e2, i2⟩
    · rw [e2]; exact ih g2 i2
    · rw [e2]; exact ⟨g2, rfl, i2⟩
    · rw [e2]; exact ih g2 i2
theorem take_ok {cr cn : List D → CO} (hr : RawOk cr) (hn : NextOk cn) : TakeOk (runDef (fxOf 2 []) 2 3 (take cr cn)) := fun xs p b n s l t many h hm => by
  by_cases h1 : many ≤ 1
  · refine ⟨0, p, b, n, s, l, ?_, h, by omega, fun z => by omega⟩
    simp [runDef, okArgs, take, fxOf, outs, h1]
  · have hm0 : 0 < many := by omega
    -- behind the look at the script
    have go : ∀ p b s l, Ok p b → ∃ r p' b' n' s' l' z u v, takeR cr [some (st xs p b n s l t), some (.int many), none, none, none] = .ret (.sh (.int r)) [some (st xs p' b' n' s' l' t), some (.int many), z, u, v] ∧ Ok p' b' ∧ 0 ≤ r ∧ r < many := fun p b s l h => by
      by_cases hb : 0 < b
      · refine ⟨b % many, p, b / many, n, s, l, some (.int (b % many)), none, none, ?_, ⟨h.p, Int.ediv_nonneg h.b (by omega)⟩, Int.emod_nonneg _ (by omega), Int.emod_lt_of_pos _ hm0⟩
        simp [takeR, fxOf, hb, mod_ii _ _ hm0, fdiv_ii _ _ hm0 (by omega)]
      · obtain ⟨g', e, n', x, y, z, rfl⟩ := forL_inv (f := Tgt.put (fxOf 2 []) (.slot 4)) (b := takeL cr) (g0 := []) (ds := (List.range 14).map fun (k : Nat) => D.int (k : Int)) (g := [some (st xs p b n s (l - 1) t), some (.int many), some (.int 0), some (.int 1), none])
          (I := fun g => ∃ n' x y z, g = [some (st xs p b n' s (l - 1) t), some (.int many), some (.int x), some (.int y), z]) ⟨n, 0, 1, none, rfl⟩ (fun d hd g ⟨n', x, y, z, eg⟩ => by
            subst eg
            obtain ⟨k, _, rfl⟩ := List.mem_map.mp hd
            refine ⟨[some (st xs p b n' s (l - 1) t), some (.int many), some (.int x), some (.int y), some (.int (k : Int))], by simp [Tgt.put, fxOf], ?_⟩
            have m1 : vMul (.int many) (.int 50) = some (.sh (.int (many * 50))) := mul_ii _ _ (okMul_r _ _ (by decide))
            have m2 : vMul (.int x) (.int 1000003) = some (.sh (.int (x * 1000003))) := mul_ii _ _ (okMul_r _ _ (by decide))
            have m3 : vMul (.int y) (.int 1000003) = some (.sh (.int (y * 1000003))) := mul_ii _ _ (okMul_r _ _ (by decide))
            by_cases hc : many * 50 ≤ y
            · refine .inr (.inl ⟨_, ?_, ⟨n', x, y, some (.int (k : Int)), rfl⟩⟩)
              simp [takeL, m1, hc]
            · obtain ⟨r, n2, er, r1, r2⟩ := hr xs p b n' s (l - 1) t
              refine .inl ⟨_, ?_, ⟨n2, x * 1000003 + r, y * 1000003, some (.int (k : Int)), rfl⟩⟩
              simp [takeL, m1, m2, m3, hc, er, fxOf])
        refine ⟨x % many, p, b, n', s, l - 1, some (.int x), some (.int y), z, ?_, h, Int.emod_nonneg _ (by omega), Int.emod_lt_of_pos _ hm0⟩
        simp [takeR, fxOf, hb, e, mod_ii _ _ hm0]
    by_cases hz : b = 0 ∧ l = 0
    · obtain ⟨rfl, rfl⟩ := hz
      obtain ⟨p1, b1, s1, l1, e1, h2⟩ := hn xs p 0 n s 0 t h
      obtain ⟨r, p', b', n', s', l', z, u, v, e, h3, h4, h5⟩ := go p1 b1 s1 l1 h2
      refine ⟨r, p', b', n', s', l', ?_, h3, h4, fun _ => h5⟩
      simp [runDef, okArgs, take, fxOf, outs, h1, e1, e]
    · obtain ⟨r, p', b', n', s', l', z, u, v, e, h3, h4, h5⟩ := go p b s l h
      refine ⟨r, p', b', n', s', l', ?_, h3, h4, fun _ => h5⟩
      by_cases hb : b = 0
      · have hl : ¬ l = 0 := fun z => hz ⟨hb, z⟩
        subst hb
        simp [runDef, okArgs, take, fxOf, outs, h1, hl, e]
      · simp [runDef, okArgs, take, fxOf, outs, h1, hb, e]
@[simp] theorem fz_obj (o : Bool) (s : Sh) (xs : List D) : D.fz (.obj o s xs) = .obj false s (fzs xs) := by simp [D.fz]
@[simp] theorem fzs_ints (xs : List Int) : fzs (xs.map D.int) = xs.map D.int := by
  induction xs with
  | nil => simp [fzs]
  | cons x xs ih => simp [fzs, ih, D.fz]
@[simp] theorem fz_int (i : Int) : D.fz (.int i) = .int i := by simp [D.fz]
@[simp] theorem fz_str (i : Str) : D.fz (.str i) = .str i := by simp [D.fz]
@[simp] theorem fz_bl (i : Bool) : D.fz (.bl i) = .bl i := by simp [D.fz]
@[simp] theorem fz_non : D.fz .non = .non := by simp [D.fz]
@[simp] theorem fzs_nil : fzs [] = [] := by simp [fzs]
@[simp] theorem fzs_cons (x : D) (xs : List D) : fzs (x :: xs) = x.fz :: fzs xs := by simp [fzs]
theorem pt_ints (o : Bool) (xs : List Int) : pt o (xs.map D.int) = true := by
  unfold pt
  rw [show ((xs.map D.int).all fun d => !d.own) = true by simp [List.all_eq_true], Bool.or_true]
def StoreOk (c : List D → CO) : Prop := ∀ ns : List Int, ∃ t, c [scr ns] = .ok (st ns 0 0 0 0 0 t) [some (scr ns)]
theorem store_ok : StoreOk (runDef (fxOf 1 []) 1 2 store) := fun ns => by
  have m0 : vMul (.int 1009) (.int ns.length) = some (.sh (.int (1009 * ns.length))) := mul_ii _ _ (okMul_l _ _ (by decide))
  obtain ⟨g', e, x, z, rfl⟩ := forL_inv (f := Tgt.put (fxOf 1 []) (.slot 2)) (b := S.seq (S.asg (fxOf 1 []) false 1 (M.op2 vAdd (M.opd (M.slot 1)) (M.opd (M.op2 vMod (M.opd (M.fn vInt (M.cons (M.opd (M.slot 2)) (M.pure [])))) (M.opd (M.pure (.sh (.int 1000003)))))))) S.nop) (g0 := []) (ds := ns.map D.int)
    (g := [some (scr ns), some (.int (5 + 1009 * ns.length)), none]) (I := fun g => ∃ x z, g = [some (scr ns), some (.int x), z]) ⟨_, _, rfl⟩ (fun d hd g ⟨x, z, eg⟩ => by
      subst eg
      obtain ⟨k, _, rfl⟩ := List.mem_map.mp hd
      refine ⟨[some (scr ns), some (.int x), some (.int k)], by simp [Tgt.put, fxOf], .inl ⟨_, ?_, x + k % 1000003, some (.int k), rfl⟩⟩
      simp [fxOf, mod_ii])
  refine ⟨x % 1000003, ?_⟩
  simp [scr] at e
  simp [runDef, okArgs, store, fxOf, outs, scr, m0, e, vList, pt_ints, mod_ii, sizeLine]
def SomeOk (c : List D → CO) : Prop := ∀ xs p b n s l t lo hi, Ok p b → (hi - lo + 1).natAbs.log2 < 8000 → ∃ r p' b' n' s' l', c [st xs p b n s l t, .int lo, .int hi] = .ok (.int r) [some (st xs p' b' n' s' l' t), some (.int lo), some (.int hi)] ∧ Ok p' b' ∧ lo ≤ r ∧ (lo ≤ hi → r ≤ hi)
theorem some_ok {c : List D → CO} (hc : TakeOk c) : SomeOk (runDef (fxOf 3 []) 3 1 (some_ c)) := fun xs p b n s l t lo hi h hm => by
  by_cases h1 : hi ≤ lo
  · refine ⟨lo, p, b, n, s, l, ?_, h, Int.le_refl _, fun z => z⟩
    simp [runDef, okArgs, some_, fxOf, outs, h1]
  · obtain ⟨r1, p1, b1, n1, s1, l1, e1, k1, r1a, r1b⟩ := hc xs p b n s l t 6 h (by decide)
    by_cases h2 : r1 = 0
    · subst h2
      refine ⟨lo, p1, b1, n1, s1, l1, ?_, k1, Int.le_refl _, fun z => z⟩
      simp [runDef, okArgs, some_, fxOf, outs, h1, e1]
    · by_cases h3 : r1 = 1
      · subst h3
        refine ⟨hi, p1, b1, n1, s1, l1, ?_, k1, by omega, fun z => Int.le_refl _⟩
        simp [runDef, okArgs, some_, fxOf, outs, h1, e1]
      · obtain ⟨r2, p2, b2, n2, s2, l2, e2, k2, r2a, r2b⟩ := hc xs p1 b1 n1 s1 l1 t (hi - lo + 1) k1 hm
        have := r2b (by omega)
        refine ⟨lo + r2, p2, b2, n2, s2, l2, ?_, k2, by omega, fun z => by omega⟩
        simp [runDef, okArgs, some_, fxOf, outs, h1, e1, h2, h3, e2]
/-- one of a row's parts: of a list, of a text -/
def PickOk (c : List D → CO) : Prop := (∀ xs p b n s l t (row : List D), Ok p b → row ≠ [] → row.length ≤ sizeLine → (∀ d ∈ row, d.own = false) → ∃ d p' b' n' s' l', c [st xs p b n s l t, .obj false .lst row] = .ok d [some (st xs p' b' n' s' l' t), some (.obj false .lst row)] ∧ Ok p' b' ∧ d ∈ row) ∧
  ∀ xs p b n s l t (z : Str), Ok p b → 0 < z.length → z.length ≤ sizeLine → ∃ i p' b' n' s' l', c [st xs p b n s l t, .str z] = .ok (.str ⟨#[i]⟩) [some (st xs p' b' n' s' l' t), some (.str z)] ∧ Ok p' b' ∧ i ∈ z.cps.toList
theorem log_size {n : Nat} (h : n ≤ sizeLine) : ((n : Int)).natAbs.log2 < 8000 := by
  have : n < 2 ^ 25 := Nat.lt_of_le_of_lt h (by decide)
  rw [Int.natAbs_natCast]
  by_cases z : n = 0
  · subst z; decide
  · have := (Nat.log2_lt z).mpr this
    omega
theorem pick_ok {c : List D → CO} (hc : TakeOk c) : PickOk (runDef (fxOf 2 []) 2 0 (pick c)) := ⟨fun xs p b n s l t row h hr hl ho => by
    obtain ⟨r, p1, b1, n1, s1, l1, e1, k1, ra, rb⟩ := hc xs p b n s l t row.length h (log_size hl)
    have hpos : 0 < row.length := List.length_pos_iff.mpr hr
    have hlt := rb (by omega)
    have hi : r.toNat < row.length := by omega
    have own := ho row[r.toNat] (List.getElem_mem hi)
    refine ⟨row[r.toNat], p1, b1, n1, s1, l1, ?_, k1, List.getElem_mem hi⟩
    simp [runDef, okArgs, pick, fxOf, outs, e1, atI_pos _ _ ra, hi, own],
  fun xs p b n s l t z h h0 hl => by
    obtain ⟨r, p1, b1, n1, s1, l1, e1, k1, ra, rb⟩ := hc xs p b n s l t z.length h (log_size hl)
    have hlt := rb (by omega)
    have hi : r.toNat < z.cps.toList.length := by
      have : z.cps.toList.length = z.length := rfl
      omega
    have hix : vIx (.str z) (.int r) = some (.sh (.str ⟨#[z.cps.toList[r.toNat]]⟩)) := by
      show (if z.length ≤ sizeLine then _ else none) = _
      rw [if_pos hl, atI_pos _ _ ra, List.getElem?_eq_getElem hi]
      rfl
    refine ⟨z.cps.toList[r.toNat], p1, b1, n1, s1, l1, ?_, k1, List.getElem_mem hi⟩
    simp [runDef, okArgs, pick, fxOf, outs, e1, len_str _ hl, hix]⟩
end VL.Dr

set_option Elab.async false
set_option linter.all false
set_option maxRecDepth 100000
set_option maxHeartbeats 4000000
/-! Texts and loops in value programs. -/
namespace VL
open PySem PySem.Spec L2
theorem len_app (a b : Str) : (a ++ b).length = a.length + b.length := by
  show (a.cps ++ b.cps).size = a.cps.size + b.cps.size
  simp
theorem len_cut (z : Str) (lo hi : Option Int) : (L2.cutS z lo hi).length ≤ z.length := by
  show ((z.cps.toList.drop _).take _).toArray.size ≤ z.cps.size
  simp
  omega
theorem len_mul (x : Str) (n : Int) (h : 1 ≤ n) : (Txt.mul x n).length ≤ x.length * n.toNat := by
  unfold Txt.mul
  rw [if_neg (by omega)]
  split
  · exact Nat.le_mul_of_pos_right _ (by omega)
  · show ((List.replicate n.toNat x.cps).foldl (· ++ ·) #[]).size ≤ _
    rw [size_reps]
    show #[].size + n.toNat * x.cps.size ≤ x.cps.size * n.toNat
    rw [Nat.mul_comm]
    simp
theorem add_ss (a b : Str) (h : a.length + b.length ≤ sizeLine) : vAdd (.str a) (.str b) = some (.sh (.str (a ++ b))) := if_pos h
theorem sl_s (lo hi : Option Int) (z : Str) (h : z.length ≤ sizeLine) : vSl lo hi (.str z) = some (.sh (.str (L2.cutS z lo hi))) := if_pos h
theorem mul_si (x : Str) (k : Int) (h : 1 ≤ k ∧ k ≤ 1048576 ∧ x.length * k.toNat ≤ sizeLine) : vMul (.str x) (.int k) = some (.sh (.str (Txt.mul x k))) := if_pos h
theorem ix_si (z : Str) (i : Int) (hl : z.length ≤ sizeLine) (h0 : 0 ≤ i) (h : i < z.length) : ∃ c ∈ z.cps.toList, vIx (.str z) (.int i) = some (.sh (.str ⟨#[c]⟩)) := by
  have hi : i.toNat < z.cps.toList.length := by
    have : z.cps.toList.length = z.length := rfl
    omega
  refine ⟨z.cps.toList[i.toNat], List.getElem_mem hi, ?_⟩
  show (if z.length ≤ sizeLine then _ else none) = _
  rw [if_pos hl, atI_pos _ _ h0, List.getElem?_eq_getElem hi]
  rfl
/-- an upper-case text -/
theorem ev_up (g : G) (a : M RV) (z : Str) (g1 : G) (h : a g = .ok (.sh (.str z)) g1) (hl : z.length ≤ 5592405) : M.meth mUpper "str" a (M.pure []) g = .ok (.sh (.str (Txt.upper z))) g1 := by
  unfold M.meth
  rw [bind_ok h]
  have : D.tyName (.str z) = some "str" := rfl
  simp only [at_sh, this, if_true]
  rw [bind_ok (ev_pure _ _)]
  simp [mUpper, hl]
/-- a loop with a count -/
theorem forL_ix {f : D → G → Option G} {b : S} {I : Nat → G → Prop} : ∀ {ds : List D} {k : Nat} {g : G}, I k g → (∀ d ∈ ds, ∀ j g, k ≤ j → j < k + ds.length → I j g → ∃ g1, f d g = some g1 ∧ ((∃ g2, b g1 = .nx g2 ∧ I (j + 1) g2) ∨ (∃ g2, b g1 = .cont g2 ∧ I (j + 1) g2))) → ∃ g', S.forL f b ds g = .nx g' ∧ I (k + ds.length) g'
  | [], k, g, i, _ => ⟨g, rfl, i⟩
  | d :: ds, k, g, i, h => by
    obtain ⟨g1, e1, e2⟩ := h d (List.mem_cons_self ..) k g (Nat.le_refl _) (by simp) i
    have ih : ∀ g2, I (k + 1) g2 → ∃ g', S.forL f b ds g2 = .nx g' ∧ I (k + (d :: ds).length) g' := fun g2 i2 => by
      have := forL_ix (ds := ds) i2 fun d' hd j g h1 h2 i => h d' (List.mem_cons_of_mem _ hd) j g (by omega) (by simp; omega) i
      rw [show k + (d :: ds).length = k + 1 + ds.length by simp; omega]
      exact this
    unfold S.forL
    rw [e1]
    dsimp only
    rcases e2 with ⟨g2, e2, i2⟩ | ⟨g2, e2, i2⟩
    · rw [e2]; exact ih g2 i2
    · rw [e2]; exact ih g2 i2
/-- a comprehension whose elements are drawn -/
theorem lcL_inv {f : D → G → Option G} {me : M RV} {vs : List Nat} {I : G → Prop} {P : D → Prop} : ∀ {ds acc : List D} {g : G}, I g → (∀ y ∈ acc, P y) → acc.length + ds.length ≤ sizeLine → (∀ d ∈ ds, ∀ g, I g → ∃ g1 y g3, f d (wipeG g vs) = some g1 ∧ M.bind me M.store g1 = .ok y g3 ∧ I g3 ∧ P y) →
    ∃ acc' g', lcL f (M.pure true) me vs ds acc g = .ok acc' g' ∧ I g' ∧ (∀ y ∈ acc', P y) ∧ acc'.length = acc.length + ds.length
  | [], acc, g, i, p, _, _ => ⟨acc, g, rfl, i, p, rfl⟩
  | d :: ds, acc, g, i, p, hl, h => by
    obtain ⟨g1, y, g3, e1, e2, i3, py⟩ := h d (List.mem_cons_self ..) g i
    have hl' : acc.length + (ds.length + 1) ≤ sizeLine := hl
    obtain ⟨acc', g', e4, i4, p4, l4⟩ := lcL_inv (ds := ds) (acc := acc ++ [y]) i3 (fun z hz => (List.mem_append.mp hz).elim (p z) fun hz => by rw [List.mem_singleton.mp hz]; exact py) (by simp; omega) fun d' hd g i => h d' (List.mem_cons_of_mem _ hd) g i
    refine ⟨acc', g', ?_, i4, p4, by rw [l4]; simp; omega⟩
    unfold lcL
    rw [e1]
    simp only [ev_pure, e2]
    rw [if_pos (by omega)]
    exact e4
/-- a comprehension that picks out of what is walked -/
theorem lcL_filter {f : D → G → Option G} {mt : M Bool} {me : M RV} {vs : List Nat} {I : G → Prop} {p : D → Bool} : ∀ {ds acc : List D} {g : G}, I g → acc.length + ds.length ≤ sizeLine → (∀ d ∈ ds, ∀ g, I g → ∃ g1, f d (wipeG g vs) = some g1 ∧ mt g1 = .ok (p d) g1 ∧ M.bind me M.store g1 = .ok d g1 ∧ I g1) →
    ∃ g', lcL f mt me vs ds acc g = .ok (acc ++ ds.filter p) g' ∧ I g'
  | [], acc, g, i, _, _ => ⟨g, by simp [lcL], i⟩
  | d :: ds, acc, g, i, hl, h => by
    obtain ⟨g1, e1, e2, e3, i3⟩ := h d (List.mem_cons_self ..) g i
    have hl' : acc.length + (ds.length + 1) ≤ sizeLine := hl
    unfold lcL
    rw [e1]
    simp only [e2]
    cases c : p d with
    | true =>
      obtain ⟨g', e4, i4⟩ := lcL_filter (p := p) (ds := ds) (acc := acc ++ [d]) i3 (by simp; omega) fun d' hd g i => h d' (List.mem_cons_of_mem _ hd) g i
      refine ⟨g', ?_, i4⟩
      simp only [e3]
      rw [if_pos (by omega), e4, List.filter_cons, c]
      simp
    | false =>
      obtain ⟨g', e4, i4⟩ := lcL_filter (p := p) (ds := ds) (acc := acc) i3 (by omega) fun d' hd g i => h d' (List.mem_cons_of_mem _ hd) g i
      refine ⟨g', ?_, i4⟩
      dsimp only
      rw [e4, List.filter_cons, c]
      simp
def lcA (g1 : G) (vs : List Nat) (o : Out (List D)) : Out RV := match o with
  | .ok acc g2 => .ok (.ow (.obj true .lst acc)) (backG g1 g2 vs)
  | _ => .stuck
@[simp] theorem ev_lcA (g1 : G) (vs : List Nat) (acc : List D) (g2 : G) : lcA g1 vs (.ok acc g2) = .ok (.ow (.obj true .lst acc)) (backG g1 g2 vs) := rfl
def lcK (f : D → G → Option G) (vs : List Nat) (mt : M Bool) (me : M RV) (ds : List D) : M RV := fun g1 => if noOwn g1 vs = true then lcA g1 vs (lcL f mt me vs ds [] g1) else .stuck
@[simp] theorem ev_lcK (f : D → G → Option G) (vs : List Nat) (mt : M Bool) (me : M RV) (ds : List D) (g1 : G) : lcK f vs mt me ds g1 = if noOwn g1 vs = true then lcA g1 vs (lcL f mt me vs ds [] g1) else .stuck := rfl
@[simp] theorem ev_lc (f : D → G → Option G) (vs : List Nat) (mi : M (List D)) (mt : M Bool) (me : M RV) (g : G) : M.lc f vs mi mt me g = (mi g).then (lcK f vs mt me) := by
  unfold M.lc Out.then lcK lcA
  cases mi g with
  | ok ds g1 => first | rfl | (dsimp only; split <;> rfl)
  | _ => rfl
@[simp] theorem back_nil (g0 g : G) : backG g0 g [] = g := rfl
@[simp] theorem back_cons (g0 g : G) (v : Nat) (vs : List Nat) : backG g0 g (v :: vs) = (backG g0 g vs).set v (g0[v]?).join := rfl
@[simp] theorem wipe_nil (g : G) : wipeG g [] = g := rfl
@[simp] theorem wipe_cons (g : G) (v : Nat) (vs : List Nat) : wipeG g (v :: vs) = (wipeG g vs).set v none := rfl
end VL

set_option Elab.async false
set_option linter.all false
set_option maxRecDepth 100000
set_option maxHeartbeats 4000000
namespace VL.K00
open PySem PySem.Spec L2 VL
def top (i : Nat) : Stmt := PySem.Challenge.pw_drowsefolk_k00_names_and_numbers.main.body.getD i (.Pass ⟨0, 0, 0, 0⟩)
def gc (x : Str) (v : GC) : Str × GC := (x, v)
def d_is_name : DT := ⟨"is_name", ["text", "sign"], 1, [], [], (defArgs (top 24)).args, defBody (top 24), defScope (top 24)⟩
def d_is_number : DT := ⟨"is_number", ["value", "low", "high"], 3, [], [], (defArgs (top 25)).args, defBody (top 25), defScope (top 25)⟩
def d_law_store : DT := ⟨"_law_store", ["_law_script", "_law_total", "_law_cell"], 1, [], [], (defArgs (top 27)).args, defBody (top 27), defScope (top 27)⟩
def d_law_next : DT := ⟨"_law_next", ["_law_store_here", "_law_cell"], 1, [], [], (defArgs (top 28)).args, defBody (top 28), defScope (top 28)⟩
def d_law_raw : DT := ⟨"_law_raw", ["_law_store_here", "_law_one", "_law_two"], 1, [], [], (defArgs (top 29)).args, defBody (top 29), defScope (top 29)⟩
def d_law_take : DT := ⟨"_law_take", ["_law_store_here", "_law_many", "_law_number_here", "_law_size", "_law_k"], 2, [], [], (defArgs (top 30)).args, defBody (top 30), defScope (top 30)⟩
def d_law_some : DT := ⟨"_law_some", ["_law_store_here", "_law_low", "_law_high", "_law_pick_here"], 3, [], [], (defArgs (top 31)).args, defBody (top 31), defScope (top 31)⟩
def d_law_number : DT := ⟨"_law_number", ["_law_store_here", "_law_pick_here", "_law_row"], 1, [], [], (defArgs (top 32)).args, defBody (top 32), defScope (top 32)⟩
def d_law_pick : DT := ⟨"_law_pick", ["_law_store_here", "_law_row"], 2, [], [], (defArgs (top 33)).args, defBody (top 33), defScope (top 33)⟩
def d_law_same : DT := ⟨"_law_same", ["_law_one", "_law_other", "_law_k"], 2, [], [], (defArgs (top 34)).args, defBody (top 34), defScope (top 34)⟩
def d_law_name : DT := ⟨"_law_name", ["_law_store_here", "_law_words", "_law_signs", "_law_name_here", "_law_k"], 1, [], [], (defArgs (top 35)).args, defBody (top 35), defScope (top 35)⟩
def d_law_bad_name : DT := ⟨"_law_bad_name", ["_law_store_here", "_law_wrong", "_law_name_here", "_law_pick_here", "_law_place", "_law_sign"], 1, [], [], (defArgs (top 36)).args, defBody (top 36), defScope (top 36)⟩
def d_law_text : DT := ⟨"_law_text", ["_law_store_here", "_law_wide", "_law_plain", "_law_pick_here", "_law_name_here", "_law_place", "_law_size", "_law_text_here", "_law_k"], 1, [], [], (defArgs (top 37)).args, defBody (top 37), defScope (top 37)⟩
def d_law_near : DT := ⟨"_law_near", ["_law_text_here", "_law_out"], 1, [], [], (defArgs (top 38)).args, defBody (top 38), defScope (top 38)⟩
def d_law_form : DT := ⟨"_law_form", ["_law_text_here", "_law_letters", "_law_fit", "_law_sign"], 1, [], [], (defArgs (top 39)).args, defBody (top 39), defScope (top 39)⟩
def d_law_cut : DT := ⟨"_law_cut", ["_law_number_here"], 1, [], [], (defArgs (top 40)).args, defBody (top 40), defScope (top 40)⟩
def d_law_question : DT := ⟨"_law_question", ["_law_store_here", "_law_low", "_law_high", "_law_pick_here", "_law_row", "_law_value"], 1, [], [], (defArgs (top 41)).args, defBody (top 41), defScope (top 41)⟩
def d_law_texts_fine : DT := ⟨"_law_texts_fine", ["_law_texts", "_law_text_here"], 1, [], [], (defArgs (top 42)).args, defBody (top 42), defScope (top 42)⟩
def d_law_numbers_fine : DT := ⟨"_law_numbers_fine", ["_law_questions", "_law_value", "_law_low", "_law_high"], 1, [], [], (defArgs (top 43)).args, defBody (top 43), defScope (top 43)⟩
def d_law_constants_fine : DT := ⟨"_law_constants_fine", ["_law_told", "_law_due"], 0, [], [], (defArgs (top 44)).args, defBody (top 44), defScope (top 44)⟩
def d_law : DT := ⟨"law", ["_law_script", "_law_store_here", "_law_drawn", "_law_k", "_law_texts", "_law_text_here", "_law_questions"], 1, [], [1, 4], (defArgs (top 45)).args, defBody (top 45), defScope (top 45)⟩
def dts : List DT := [d_is_name, d_is_number, d_law_store, d_law_next, d_law_raw, d_law_take, d_law_some, d_law_number, d_law_pick, d_law_same, d_law_name, d_law_bad_name, d_law_text, d_law_near, d_law_form, d_law_cut, d_law_question, d_law_texts_fine, d_law_numbers_fine, d_law_constants_fine, d_law]
def gcs : List (Str × GC) := [gc "MOST_FOLK" (.int 10), gc "MOST_WATCHES" (.int 24), gc "MOST_NUMBER" (.int 9999), gc "MOST_DEEDS" (.int 200), gc "CLASS_LIMIT" (.int 400), gc "SMALL_CLASS" (.int 64), gc "SUBSET_LIMIT" (.int 8), gc "RENAME_LIMIT" (.int 5), gc "KEEPER_LIMIT" (.int 6), gc "LIGHT_LIMIT" (.int 4), gc "MOST_BORDER" (.int 3), gc "MOST_OUTER" (.int 7), gc "PIECE_FOLK" (.int 9), gc "PIECE_WATCHES" (.int 21), gc "MOST_SIGHTINGS" (.int 8), gc "MOST_GAP" (.int 6), gc "MOST_LINES" (.int 40), gc "MOST_DEPTH" (.int 4), gc "MOST_TICKS" (.int 90), gc "MOST_ROWS" (.int 60), gc "LONGEST_NAME" (.int 8), gc "LETTERS" (.str "abcdefghijklmnopqrstuvwxyz"), gc "LETTERS_AND_DIGITS" (.str "abcdefghijklmnopqrstuvwxyz0123456789"), gc "bool" .none, gc "int" .none, gc "isinstance" .none, gc "len" .none, gc "list" .none, gc "max" .none, gc "min" .none, gc "range" .none, gc "str" .none, gc "tuple" .none]
end VL.K00

set_option Elab.async false
set_option linter.all false
set_option maxRecDepth 100000
set_option maxHeartbeats 4000000
namespace VL
end VL
namespace VL.K00
open PySem PySem.Spec L2 VL
def b_is_name : S := (S.seq (S.ite (M.orB (M.toB (M.op2 vLt (M.opd (M.fn vLen (M.cons (M.opd (M.slot 0)) (M.pure [])))) (M.opd (M.pure (.sh (.int 1)))))) (M.toB (M.op2 vGt (M.opd (M.fn vLen (M.cons (M.opd (M.slot 0)) (M.pure [])))) (M.opd (M.pure (.sh (.int 8))))))) (S.seq (S.ret 1 (M.pure (.sh (.bl false))))
    S.nop) S.nop)
    (S.seq (S.ite (M.toB (M.op2 vNotIn (M.opd (M.op2 vIx (M.opd (M.slot 0)) (M.opd (M.pure (.sh (.int 0)))))) (M.opd (M.pure (.sh (.str "abcdefghijklmnopqrstuvwxyz")))))) (S.seq (S.ret 1 (M.pure (.sh (.bl false))))
    S.nop) S.nop)
    (S.seq (S.for_ (Tgt.put (fxOf 1 []) (.slot 1)) (S.seq (S.ite (M.toB (M.op2 vNotIn (M.opd (M.slot 1)) (M.opd (M.pure (.sh (.str "abcdefghijklmnopqrstuvwxyz0123456789")))))) (S.seq (S.ret 1 (M.pure (.sh (.bl false))))
    S.nop) S.nop)
    S.nop) (M.iter (M.opd (M.slot 0))))
    (S.seq (S.ret 1 (M.pure (.sh (.bl true))))
    S.nop))))
theorem e_is_name (k : Nat) : d_is_name.cf (glAt dts gcs (k + 1)) = runDef (fxOf 1 []) 1 1 (b_is_name ) := by kernel_rfl
def b_is_number : S := (S.seq (S.ite (M.orB (M.toB (M.fn vIsi (M.cons (M.opd (M.slot 0)) (M.cons (M.opd (M.pure (.sh (.ty "bool")))) (M.pure []))))) (M.notB (M.toB (M.fn vIsi (M.cons (M.opd (M.slot 0)) (M.cons (M.opd (M.pure (.sh (.ty "int")))) (M.pure []))))))) (S.seq (S.ret 3 (M.pure (.sh (.bl false))))
    S.nop) S.nop)
    (S.seq (S.ret 3 (M.chain vLe vLe (M.opd (M.slot 1)) (M.opd (M.slot 0)) (M.opd (M.slot 2))))
    S.nop))
theorem e_is_number (k : Nat) : d_is_number.cf (glAt dts gcs (k + 1)) = runDef (fxOf 3 []) 3 0 (b_is_number ) := by kernel_rfl
def b_law_store : S := (S.seq (S.asg (fxOf 1 []) false 1 (M.op2 vAdd (M.opd (M.pure (.sh (.int 5)))) (M.opd (M.op2 vMul (M.opd (M.pure (.sh (.int 1009)))) (M.opd (M.fn vLen (M.cons (M.opd (M.slot 0)) (M.pure []))))))))
    (S.seq (S.for_ (Tgt.put (fxOf 1 []) (.slot 2)) (S.seq (S.asg (fxOf 1 []) false 1 (M.op2 vAdd (M.opd (M.slot 1)) (M.opd (M.op2 vMod (M.opd (M.fn vInt (M.cons (M.opd (M.slot 2)) (M.pure [])))) (M.opd (M.pure (.sh (.int 1000003))))))))
    S.nop) (M.iter (M.opd (M.slot 0))))
    (S.seq (S.ret 1 (M.list (M.cons (M.opd (M.fn vList (M.cons (M.opd (M.slot 0)) (M.pure [])))) (M.cons (M.opd (M.pure (.sh (.int 0)))) (M.cons (M.opd (M.pure (.sh (.int 0)))) (M.cons (M.opd (M.pure (.sh (.int 0)))) (M.cons (M.opd (M.pure (.sh (.int 0)))) (M.cons (M.opd (M.pure (.sh (.int 0)))) (M.cons (M.opd (M.op2 vMod (M.opd (M.fn vInt (M.cons (M.opd (M.slot 1)) (M.pure [])))) (M.opd (M.pure (.sh (.int 1000003)))))) (M.pure []))))))))))
    S.nop)))
theorem e_law_store (k : Nat) : d_law_store.cf (glAt dts gcs (k + 1)) = runDef (fxOf 1 []) 1 2 (b_law_store ) := by kernel_rfl
def b_law_next : S := (S.seq (S.ite (M.toB (M.op2 vGe (M.opd (M.op2 vIx (M.opd (M.slot 0)) (M.opd (M.pure (.sh (.int 1)))))) (M.opd (M.fn vLen (M.cons (M.opd (M.op2 vIx (M.opd (M.slot 0)) (M.opd (M.pure (.sh (.int 0)))))) (M.pure [])))))) (S.seq (S.sub 0 (M.op2 vIx (M.opd (M.slot 0)) (M.opd (M.pure (.sh (.int 6))))) (M.opd (M.pure (.sh (.int 4)))))
    (S.seq (S.sub 0 (M.pure (.sh (.int 9999))) (M.opd (M.pure (.sh (.int 5)))))
    (S.seq (S.ret 1 (M.pure (.sh .non)))
    S.nop))) S.nop)
    (S.seq (S.asg (fxOf 1 []) false 1 (M.fn vInt (M.cons (M.opd (M.op2 vIx (M.opd (M.op2 vIx (M.opd (M.slot 0)) (M.opd (M.pure (.sh (.int 0)))))) (M.opd (M.op2 vIx (M.opd (M.slot 0)) (M.opd (M.pure (.sh (.int 1)))))))) (M.pure []))))
    (S.seq (S.sub 0 (M.op2 vAdd (M.opd (M.op2 vIx (M.opd (M.slot 0)) (M.opd (M.pure (.sh (.int 1)))))) (M.opd (M.pure (.sh (.int 1))))) (M.opd (M.pure (.sh (.int 1)))))
    (S.seq (S.ite (M.toB (M.op2 vGe (M.opd (M.slot 1)) (M.opd (M.op2 vPow (M.opd (M.pure (.sh (.int 10)))) (M.opd (M.pure (.sh (.int 18)))))))) (S.seq (S.sub 0 (M.slot 1) (M.opd (M.pure (.sh (.int 2)))))
    S.nop) (S.seq (S.sub 0 (M.op2 vMod (M.opd (M.slot 1)) (M.opd (M.pure (.sh (.int 1000003))))) (M.opd (M.pure (.sh (.int 4)))))
    (S.seq (S.sub 0 (M.pure (.sh (.int 3))) (M.opd (M.pure (.sh (.int 5)))))
    S.nop)))
    (S.seq (S.ret 1 (M.pure (.sh .non)))
    S.nop)))))
theorem e_law_next (k : Nat) : d_law_next.cf (glAt dts gcs (k + 1)) = runDef (fxOf 1 []) 1 1 (b_law_next ) := by kernel_rfl
def b_law_raw : S := (S.seq (S.sub 0 (M.op2 vAdd (M.opd (M.op2 vIx (M.opd (M.slot 0)) (M.opd (M.pure (.sh (.int 3)))))) (M.opd (M.pure (.sh (.int 1))))) (M.opd (M.pure (.sh (.int 3)))))
    (S.seq (S.asg (fxOf 1 []) false 1 (M.op2 vMod (M.opd (M.fn vInt (M.cons (M.opd (M.op2 vAdd (M.opd (M.op2 vAdd (M.opd (M.op2 vMul (M.opd (M.op2 vIx (M.opd (M.slot 0)) (M.opd (M.pure (.sh (.int 4)))))) (M.opd (M.pure (.sh (.int 613)))))) (M.opd (M.op2 vMul (M.opd (M.op2 vIx (M.opd (M.slot 0)) (M.opd (M.pure (.sh (.int 3)))))) (M.opd (M.pure (.sh (.int 7919)))))))) (M.opd (M.pure (.sh (.int 101)))))) (M.pure [])))) (M.opd (M.pure (.sh (.int 1000003))))))
    (S.seq (S.asg (fxOf 1 []) false 2 (M.op2 vMod (M.opd (M.fn vInt (M.cons (M.opd (M.op2 vAdd (M.opd (M.op2 vMul (M.opd (M.slot 1)) (M.opd (M.slot 1)))) (M.opd (M.op2 vIx (M.opd (M.slot 0)) (M.opd (M.pure (.sh (.int 3)))))))) (M.pure [])))) (M.opd (M.pure (.sh (.int 999983))))))
    (S.seq (S.ret 1 (M.op2 vMod (M.opd (M.fn vInt (M.cons (M.opd (M.op2 vAdd (M.opd (M.op2 vMul (M.opd (M.slot 2)) (M.opd (M.slot 2)))) (M.opd (M.slot 1)))) (M.pure [])))) (M.opd (M.pure (.sh (.int 1000003))))))
    S.nop))))
theorem e_law_raw (k : Nat) : d_law_raw.cf (glAt dts gcs (k + 1)) = runDef (fxOf 1 []) 1 2 (b_law_raw ) := by kernel_rfl
def b_law_take (c_law_raw c_law_next : List D → CO) : S := (S.seq (S.ite (M.toB (M.op2 vLe (M.opd (M.slot 1)) (M.opd (M.pure (.sh (.int 1)))))) (S.seq (S.ret 2 (M.pure (.sh (.int 0))))
    S.nop) S.nop)
    (S.seq (S.ite (M.andB (M.toB (M.op2 vEq (M.opd (M.op2 vIx (M.opd (M.slot 0)) (M.opd (M.pure (.sh (.int 2)))))) (M.opd (M.pure (.sh (.int 0)))))) (M.toB (M.op2 vEq (M.opd (M.op2 vIx (M.opd (M.slot 0)) (M.opd (M.pure (.sh (.int 5)))))) (M.opd (M.pure (.sh (.int 0))))))) (S.seq (S.drop (M.call c_law_next (M.cons (M.opd (M.slot 0)) (M.pure []))))
    S.nop) S.nop)
    (S.seq (S.ite (M.toB (M.op2 vGt (M.opd (M.op2 vIx (M.opd (M.slot 0)) (M.opd (M.pure (.sh (.int 2)))))) (M.opd (M.pure (.sh (.int 0)))))) (S.seq (S.asg (fxOf 2 []) false 2 (M.op2 vMod (M.opd (M.fn vInt (M.cons (M.opd (M.op2 vIx (M.opd (M.slot 0)) (M.opd (M.pure (.sh (.int 2)))))) (M.pure [])))) (M.opd (M.slot 1))))
    (S.seq (S.sub 0 (M.op2 vFdiv (M.opd (M.fn vInt (M.cons (M.opd (M.op2 vIx (M.opd (M.slot 0)) (M.opd (M.pure (.sh (.int 2)))))) (M.pure [])))) (M.opd (M.slot 1))) (M.opd (M.pure (.sh (.int 2)))))
    (S.seq (S.ret 2 (M.slot 2))
    S.nop))) S.nop)
    (S.seq (S.sub 0 (M.op2 vSub (M.opd (M.op2 vIx (M.opd (M.slot 0)) (M.opd (M.pure (.sh (.int 5)))))) (M.opd (M.pure (.sh (.int 1))))) (M.opd (M.pure (.sh (.int 5)))))
    (S.seq (S.asg (fxOf 2 []) false 2 (M.pure (.sh (.int 0))))
    (S.seq (S.asg (fxOf 2 []) false 3 (M.pure (.sh (.int 1))))
    (S.seq (S.for_ (Tgt.put (fxOf 2 []) (.slot 4)) (S.seq (S.ite (M.toB (M.op2 vGe (M.opd (M.slot 3)) (M.opd (M.op2 vMul (M.opd (M.slot 1)) (M.opd (M.pure (.sh (.int 50)))))))) (S.seq (fun g => .brk g)
    S.nop) S.nop)
    (S.seq (S.asg (fxOf 2 []) false 2 (M.op2 vAdd (M.opd (M.op2 vMul (M.opd (M.slot 2)) (M.opd (M.pure (.sh (.int 1000003)))))) (M.opd (M.call c_law_raw (M.cons (M.opd (M.slot 0)) (M.pure []))))))
    (S.seq (S.asg (fxOf 2 []) false 3 (M.op2 vMul (M.opd (M.slot 3)) (M.opd (M.pure (.sh (.int 1000003))))))
    S.nop))) (M.rng1 (M.opd (M.pure (.sh (.int 14))))))
    (S.seq (S.ret 2 (M.op2 vMod (M.opd (M.fn vInt (M.cons (M.opd (M.slot 2)) (M.pure [])))) (M.opd (M.slot 1))))
    S.nop))))))))
theorem e_law_take (k : Nat) : d_law_take.cf (glAt dts gcs (k + 1)) = runDef (fxOf 2 []) 2 3 (b_law_take (d_law_raw.cf (glAt dts gcs k)) (d_law_next.cf (glAt dts gcs k))) := by kernel_rfl
def b_law_some (c_law_take : List D → CO) : S := (S.seq (S.ite (M.toB (M.op2 vLe (M.opd (M.slot 2)) (M.opd (M.slot 1)))) (S.seq (S.ret 3 (M.slot 1))
    S.nop) S.nop)
    (S.seq (S.asg (fxOf 3 []) false 3 (M.call c_law_take (M.cons (M.opd (M.slot 0)) (M.cons (M.opd (M.pure (.sh (.int 6)))) (M.pure [])))))
    (S.seq (S.ite (M.toB (M.op2 vEq (M.opd (M.slot 3)) (M.opd (M.pure (.sh (.int 0)))))) (S.seq (S.ret 3 (M.slot 1))
    S.nop) S.nop)
    (S.seq (S.ite (M.toB (M.op2 vEq (M.opd (M.slot 3)) (M.opd (M.pure (.sh (.int 1)))))) (S.seq (S.ret 3 (M.slot 2))
    S.nop) S.nop)
    (S.seq (S.ret 3 (M.op2 vAdd (M.opd (M.slot 1)) (M.opd (M.call c_law_take (M.cons (M.opd (M.slot 0)) (M.cons (M.opd (M.op2 vAdd (M.opd (M.op2 vSub (M.opd (M.slot 2)) (M.opd (M.slot 1)))) (M.opd (M.pure (.sh (.int 1)))))) (M.pure [])))))))
    S.nop)))))
theorem e_law_some (k : Nat) : d_law_some.cf (glAt dts gcs (k + 1)) = runDef (fxOf 3 []) 3 1 (b_law_some (d_law_take.cf (glAt dts gcs k))) := by kernel_rfl
def b_law_number (c_law_take : List D → CO) : S := (S.seq (S.asg (fxOf 1 []) false 1 (M.call c_law_take (M.cons (M.opd (M.slot 0)) (M.cons (M.opd (M.pure (.sh (.int 5)))) (M.pure [])))))
    (S.seq (S.ite (M.toB (M.op2 vEq (M.opd (M.slot 1)) (M.opd (M.pure (.sh (.int 0)))))) (S.seq (S.ret 1 (M.op2 vSub (M.opd (M.call c_law_take (M.cons (M.opd (M.slot 0)) (M.cons (M.opd (M.pure (.sh (.int 20)))) (M.pure []))))) (M.opd (M.pure (.sh (.int 6))))))
    S.nop) S.nop)
    (S.seq (S.ite (M.toB (M.op2 vEq (M.opd (M.slot 1)) (M.opd (M.pure (.sh (.int 1)))))) (S.seq (S.ret 1 (M.op2 vAdd (M.opd (M.pure (.sh (.int 9990)))) (M.opd (M.call c_law_take (M.cons (M.opd (M.slot 0)) (M.cons (M.opd (M.pure (.sh (.int 20)))) (M.pure [])))))))
    S.nop) S.nop)
    (S.seq (S.ite (M.toB (M.op2 vEq (M.opd (M.slot 1)) (M.opd (M.pure (.sh (.int 2)))))) (S.seq (S.ret 1 (M.call c_law_take (M.cons (M.opd (M.slot 0)) (M.cons (M.opd (M.op2 vPow (M.opd (M.pure (.sh (.int 10)))) (M.opd (M.pure (.sh (.int 60)))))) (M.pure [])))))
    S.nop) S.nop)
    (S.seq (S.ite (M.toB (M.op2 vEq (M.opd (M.slot 1)) (M.opd (M.pure (.sh (.int 3)))))) (S.seq (S.ret 1 (M.op2 vSub (M.opd (M.pure (.sh (.int 0)))) (M.opd (M.call c_law_take (M.cons (M.opd (M.slot 0)) (M.cons (M.opd (M.op2 vPow (M.opd (M.pure (.sh (.int 10)))) (M.opd (M.pure (.sh (.int 60)))))) (M.pure [])))))))
    S.nop) S.nop)
    (S.seq (S.asg (fxOf 1 []) false 2 (M.list (M.cons (M.opd (M.pure (.sh (.int 0)))) (M.cons (M.opd (M.pure (.sh (.int 1)))) (M.cons (M.opd (M.pure (.sh (.int 9999)))) (M.cons (M.opd (M.pure (.sh (.int 10000)))) (M.cons (M.opd (M.neg (M.opd (M.pure (.sh (.int 1)))))) (M.cons (M.opd (M.op2 vSub (M.opd (M.op2 vPow (M.opd (M.pure (.sh (.int 10)))) (M.opd (M.pure (.sh (.int 60)))))) (M.opd (M.pure (.sh (.int 1)))))) (M.cons (M.opd (M.op2 vSub (M.opd (M.pure (.sh (.int 1)))) (M.opd (M.op2 vPow (M.opd (M.pure (.sh (.int 10)))) (M.opd (M.pure (.sh (.int 60)))))))) (M.cons (M.opd (M.pure (.sh (.int 60)))) (M.cons (M.opd (M.pure (.sh (.int 200)))) (M.cons (M.opd (M.pure (.sh (.int 201)))) (M.cons (M.opd (M.pure (.sh (.int 12)))) (M.cons (M.opd (M.pure (.sh (.int 13)))) (M.cons (M.opd (M.pure (.sh (.int 90)))) (M.cons (M.opd (M.pure (.sh (.int 91)))) (M.cons (M.opd (M.pure (.sh (.int 400)))) (M.pure []))))))))))))))))))
    (S.seq (S.ret 1 (M.op2 vIx (M.opd (M.slot 2)) (M.opd (M.call c_law_take (M.cons (M.opd (M.slot 0)) (M.cons (M.opd (M.pure (.sh (.int 15)))) (M.pure [])))))))
    S.nop)))))))
theorem e_law_number (k : Nat) : d_law_number.cf (glAt dts gcs (k + 1)) = runDef (fxOf 1 []) 1 2 (b_law_number (d_law_take.cf (glAt dts gcs k))) := by kernel_rfl
def b_law_pick (c_law_take : List D → CO) : S := (S.seq (S.ret 2 (M.op2 vIx (M.opd (M.slot 1)) (M.opd (M.call c_law_take (M.cons (M.opd (M.slot 0)) (M.cons (M.opd (M.fn vLen (M.cons (M.opd (M.slot 1)) (M.pure [])))) (M.pure [])))))))
    S.nop)
theorem e_law_pick (k : Nat) : d_law_pick.cf (glAt dts gcs (k + 1)) = runDef (fxOf 2 []) 2 0 (b_law_pick (d_law_take.cf (glAt dts gcs k))) := by kernel_rfl
def b_law_same (c_law_same : List D → CO) : S := (S.seq (S.ite (M.orB (M.toB (M.fn vIsi (M.cons (M.opd (M.slot 0)) (M.cons (M.opd (M.pure (.sh (.ty "bool")))) (M.pure []))))) (M.toB (M.fn vIsi (M.cons (M.opd (M.slot 1)) (M.cons (M.opd (M.pure (.sh (.ty "bool")))) (M.pure [])))))) (S.seq (S.ret 2 (M.andE (M.fn vIsi (M.cons (M.opd (M.slot 0)) (M.cons (M.opd (M.pure (.sh (.ty "bool")))) (M.pure [])))) (M.andE (M.fn vIsi (M.cons (M.opd (M.slot 1)) (M.cons (M.opd (M.pure (.sh (.ty "bool")))) (M.pure [])))) (M.op2 vEq (M.opd (M.slot 0)) (M.opd (M.slot 1))))))
    S.nop) S.nop)
    (S.seq (S.ite (M.orB (M.toB (M.op2 vIs (M.opd (M.slot 0)) (M.opd (M.pure (.sh .non))))) (M.toB (M.op2 vIs (M.opd (M.slot 1)) (M.opd (M.pure (.sh .non)))))) (S.seq (S.ret 2 (M.andE (M.op2 vIs (M.opd (M.slot 0)) (M.opd (M.pure (.sh .non)))) (M.op2 vIs (M.opd (M.slot 1)) (M.opd (M.pure (.sh .non))))))
    S.nop) S.nop)
    (S.seq (S.ite (M.orB (M.toB (M.fn vIsi (M.cons (M.opd (M.slot 0)) (M.cons (M.opd (M.pure (.sh (.ty "int")))) (M.pure []))))) (M.toB (M.fn vIsi (M.cons (M.opd (M.slot 1)) (M.cons (M.opd (M.pure (.sh (.ty "int")))) (M.pure [])))))) (S.seq (S.ret 2 (M.andE (M.fn vIsi (M.cons (M.opd (M.slot 0)) (M.cons (M.opd (M.pure (.sh (.ty "int")))) (M.pure [])))) (M.andE (M.fn vIsi (M.cons (M.opd (M.slot 1)) (M.cons (M.opd (M.pure (.sh (.ty "int")))) (M.pure [])))) (M.op2 vEq (M.opd (M.slot 0)) (M.opd (M.slot 1))))))
    S.nop) S.nop)
    (S.seq (S.ite (M.orB (M.toB (M.fn vIsi (M.cons (M.opd (M.slot 0)) (M.cons (M.opd (M.pure (.sh (.ty "str")))) (M.pure []))))) (M.toB (M.fn vIsi (M.cons (M.opd (M.slot 1)) (M.cons (M.opd (M.pure (.sh (.ty "str")))) (M.pure [])))))) (S.seq (S.ret 2 (M.andE (M.fn vIsi (M.cons (M.opd (M.slot 0)) (M.cons (M.opd (M.pure (.sh (.ty "str")))) (M.pure [])))) (M.andE (M.fn vIsi (M.cons (M.opd (M.slot 1)) (M.cons (M.opd (M.pure (.sh (.ty "str")))) (M.pure [])))) (M.op2 vEq (M.opd (M.slot 0)) (M.opd (M.slot 1))))))
    S.nop) S.nop)
    (S.seq (S.ite (M.andB (M.toB (M.fn vIsi (M.cons (M.opd (M.slot 0)) (M.cons (M.opd (M.pure (.sh (.ty "list")))) (M.pure []))))) (M.notB (M.toB (M.fn vIsi (M.cons (M.opd (M.slot 1)) (M.cons (M.opd (M.pure (.sh (.ty "list")))) (M.pure []))))))) (S.seq (S.ret 2 (M.pure (.sh (.bl false))))
    S.nop) S.nop)
    (S.seq (S.ite (M.andB (M.toB (M.fn vIsi (M.cons (M.opd (M.slot 0)) (M.cons (M.opd (M.pure (.sh (.ty "tuple")))) (M.pure []))))) (M.notB (M.toB (M.fn vIsi (M.cons (M.opd (M.slot 1)) (M.cons (M.opd (M.pure (.sh (.ty "tuple")))) (M.pure []))))))) (S.seq (S.ret 2 (M.pure (.sh (.bl false))))
    S.nop) S.nop)
    (S.seq (S.ite (M.orB (M.notB (M.toB (M.fn vIsi (M.cons (M.opd (M.slot 0)) (M.cons (M.opd (M.tuple (M.cons (M.opd (M.pure (.sh (.ty "list")))) (M.cons (M.opd (M.pure (.sh (.ty "tuple")))) (M.pure []))))) (M.pure [])))))) (M.orB (M.notB (M.toB (M.fn vIsi (M.cons (M.opd (M.slot 1)) (M.cons (M.opd (M.tuple (M.cons (M.opd (M.pure (.sh (.ty "list")))) (M.cons (M.opd (M.pure (.sh (.ty "tuple")))) (M.pure []))))) (M.pure [])))))) (M.toB (M.op2 vNe (M.opd (M.fn vLen (M.cons (M.opd (M.slot 0)) (M.pure [])))) (M.opd (M.fn vLen (M.cons (M.opd (M.slot 1)) (M.pure [])))))))) (S.seq (S.ret 2 (M.pure (.sh (.bl false))))
    S.nop) S.nop)
    (S.seq (S.for_ (Tgt.put (fxOf 2 []) (.slot 2)) (S.seq (S.ite (M.notB (M.toB (M.call c_law_same (M.cons (M.opd (M.op2 vIx (M.opd (M.slot 0)) (M.opd (M.slot 2)))) (M.cons (M.opd (M.op2 vIx (M.opd (M.slot 1)) (M.opd (M.slot 2)))) (M.pure [])))))) (S.seq (S.ret 2 (M.pure (.sh (.bl false))))
    S.nop) S.nop)
    S.nop) (M.rng1 (M.opd (M.fn vLen (M.cons (M.opd (M.slot 0)) (M.pure []))))))
    (S.seq (S.ret 2 (M.pure (.sh (.bl true))))
    S.nop)))))))))
theorem e_law_same (k : Nat) : d_law_same.cf (glAt dts gcs (k + 1)) = runDef (fxOf 2 []) 2 1 (b_law_same (d_law_same.cf (glAt dts gcs k))) := by kernel_rfl
def b_law_name (c_law_take c_law_some c_law_pick : List D → CO) : S := (S.seq (S.asg (fxOf 1 []) false 1 (M.list (M.cons (M.opd (M.pure (.sh (.str "wake")))) (M.cons (M.opd (M.pure (.sh (.str "sleep")))) (M.cons (M.opd (M.pure (.sh (.str "turn")))) (M.cons (M.opd (M.pure (.sh (.str "try")))) (M.cons (M.opd (M.pure (.sh (.str "rouse")))) (M.cons (M.opd (M.pure (.sh (.str "if")))) (M.cons (M.opd (M.pure (.sh (.str "while")))) (M.cons (M.opd (M.pure (.sh (.str "until")))) (M.cons (M.opd (M.pure (.sh (.str "each")))) (M.cons (M.opd (M.pure (.sh (.str "end")))) (M.cons (M.opd (M.pure (.sh (.str "awake")))) (M.cons (M.opd (M.pure (.sh (.str "asleep")))) (M.cons (M.opd (M.pure (.sh (.str "may")))) (M.pure []))))))))))))))))
    (S.seq (S.asg (fxOf 1 []) false 1 (M.op2 vAdd (M.opd (M.slot 1)) (M.opd (M.list (M.cons (M.opd (M.pure (.sh (.str "cannot")))) (M.cons (M.opd (M.pure (.sh (.str "least")))) (M.cons (M.opd (M.pure (.sh (.str "under")))) (M.cons (M.opd (M.pure (.sh (.str "folk")))) (M.cons (M.opd (M.pure (.sh (.str "watch")))) (M.cons (M.opd (M.pure (.sh (.str "need")))) (M.cons (M.opd (M.pure (.sh (.str "come")))) (M.cons (M.opd (M.pure (.sh (.str "go")))) (M.cons (M.opd (M.pure (.sh (.str "claim")))) (M.cons (M.opd (M.pure (.sh (.str "reach")))) (M.cons (M.opd (M.pure (.sh (.str "within")))) (M.pure []))))))))))))))))
    (S.seq (S.asg (fxOf 1 []) false 1 (M.op2 vAdd (M.opd (M.slot 1)) (M.opd (M.list (M.cons (M.opd (M.pure (.sh (.str "fits")))) (M.cons (M.opd (M.pure (.sh (.str "thin")))) (M.cons (M.opd (M.pure (.sh (.str "history")))) (M.cons (M.opd (M.pure (.sh (.str "nest")))) (M.cons (M.opd (M.pure (.sh (.str "nests")))) (M.cons (M.opd (M.pure (.sh (.str "table")))) (M.cons (M.opd (M.pure (.sh (.str "drop")))) (M.cons (M.opd (M.pure (.sh (.str "none")))) (M.cons (M.opd (M.pure (.sh (.str "z0")))) (M.cons (M.opd (M.pure (.sh (.str "z1")))) (M.cons (M.opd (M.pure (.sh (.str "a")))) (M.cons (M.opd (M.pure (.sh (.str "e")))) (M.pure [])))))))))))))))))
    (S.seq (S.ite (M.toB (M.op2 vEq (M.opd (M.call c_law_take (M.cons (M.opd (M.slot 0)) (M.cons (M.opd (M.pure (.sh (.int 6)))) (M.pure []))))) (M.opd (M.pure (.sh (.int 0)))))) (S.seq (S.ret 1 (M.call c_law_pick (M.cons (M.opd (M.slot 0)) (M.cons (M.opd (M.slot 1)) (M.pure [])))))
    S.nop) S.nop)
    (S.seq (S.asg (fxOf 1 []) false 2 (M.pure (.sh (.str "abcdefghijklmnopqrstuvwxyz0123456789"))))
    (S.seq (S.asg (fxOf 1 []) false 3 (M.op2 vIx (M.opd (M.slot 2)) (M.opd (M.call c_law_take (M.cons (M.opd (M.slot 0)) (M.cons (M.opd (M.pure (.sh (.int 26)))) (M.pure [])))))))
    (S.seq (S.for_ (Tgt.put (fxOf 1 []) (.slot 4)) (S.seq (S.asg (fxOf 1 []) false 3 (M.op2 vAdd (M.opd (M.slot 3)) (M.opd (M.op2 vIx (M.opd (M.slot 2)) (M.opd (M.call c_law_take (M.cons (M.opd (M.slot 0)) (M.cons (M.opd (M.pure (.sh (.int 36)))) (M.pure [])))))))))
    S.nop) (M.rng1 (M.opd (M.op2 vSub (M.opd (M.call c_law_some (M.cons (M.opd (M.slot 0)) (M.cons (M.opd (M.pure (.sh (.int 1)))) (M.cons (M.opd (M.pure (.sh (.int 8)))) (M.pure [])))))) (M.opd (M.pure (.sh (.int 1))))))))
    (S.seq (S.ret 1 (M.slot 3))
    S.nop))))))))
theorem e_law_name (k : Nat) : d_law_name.cf (glAt dts gcs (k + 1)) = runDef (fxOf 1 []) 1 4 (b_law_name (d_law_take.cf (glAt dts gcs k)) (d_law_some.cf (glAt dts gcs k)) (d_law_pick.cf (glAt dts gcs k))) := by kernel_rfl
def b_law_bad_name (c_law_take c_law_some c_law_name : List D → CO) : S := (S.seq (S.asg (fxOf 1 []) false 1 (M.pure (.sh (.str " !\"#$&'()*+,-./:;<=>?@ABCDEFGHIJKLMNOPQRSTUVWXYZ[\\]^_`{|}~"))))
    (S.seq (S.asg (fxOf 1 []) false 2 (M.call c_law_name (M.cons (M.opd (M.slot 0)) (M.pure []))))
    (S.seq (S.asg (fxOf 1 []) false 3 (M.call c_law_take (M.cons (M.opd (M.slot 0)) (M.cons (M.opd (M.pure (.sh (.int 6)))) (M.pure [])))))
    (S.seq (S.ite (M.toB (M.op2 vEq (M.opd (M.slot 3)) (M.opd (M.pure (.sh (.int 0)))))) (S.seq (S.ret 1 (M.pure (.sh (.str ""))))
    S.nop) S.nop)
    (S.seq (S.ite (M.toB (M.op2 vEq (M.opd (M.slot 3)) (M.opd (M.pure (.sh (.int 1)))))) (S.seq (S.ret 1 (M.op2 vAdd (M.opd (M.op2 vIx (M.opd (M.pure (.sh (.str "0123456789")))) (M.opd (M.call c_law_take (M.cons (M.opd (M.slot 0)) (M.cons (M.opd (M.pure (.sh (.int 10)))) (M.pure []))))))) (M.opd (M.sl (M.opd (M.slot 2)) (M.pure none) (M.part (M.opd (M.pure (.sh (.int 7)))))))))
    S.nop) S.nop)
    (S.seq (S.ite (M.toB (M.op2 vEq (M.opd (M.slot 3)) (M.opd (M.pure (.sh (.int 2)))))) (S.seq (S.ret 1 (M.sl (M.opd (M.op2 vMul (M.opd (M.slot 2)) (M.opd (M.pure (.sh (.int 60)))))) (M.pure none) (M.part (M.opd (M.op2 vAdd (M.opd (M.pure (.sh (.int 9)))) (M.opd (M.call c_law_some (M.cons (M.opd (M.slot 0)) (M.cons (M.opd (M.pure (.sh (.int 0)))) (M.cons (M.opd (M.pure (.sh (.int 51)))) (M.pure [])))))))))))
    S.nop) S.nop)
    (S.seq (S.ite (M.toB (M.op2 vEq (M.opd (M.slot 3)) (M.opd (M.pure (.sh (.int 3)))))) (S.seq (S.ret 1 (M.op2 vAdd (M.opd (M.meth mUpper "str" (M.opd (M.sl (M.opd (M.slot 2)) (M.pure none) (M.part (M.opd (M.pure (.sh (.int 1))))))) (M.pure []))) (M.opd (M.sl (M.opd (M.slot 2)) (M.part (M.opd (M.pure (.sh (.int 1))))) (M.pure none)))))
    S.nop) S.nop)
    (S.seq (S.asg (fxOf 1 []) false 4 (M.call c_law_take (M.cons (M.opd (M.slot 0)) (M.cons (M.opd (M.fn vLen (M.cons (M.opd (M.slot 2)) (M.pure [])))) (M.pure [])))))
    (S.seq (S.asg (fxOf 1 []) false 5 (M.op2 vIx (M.opd (M.slot 1)) (M.opd (M.call c_law_take (M.cons (M.opd (M.slot 0)) (M.cons (M.opd (M.fn vLen (M.cons (M.opd (M.slot 1)) (M.pure [])))) (M.pure [])))))))
    (S.seq (S.ite (M.toB (M.op2 vEq (M.opd (M.slot 3)) (M.opd (M.pure (.sh (.int 4)))))) (S.seq (S.ret 1 (M.op2 vAdd (M.opd (M.op2 vAdd (M.opd (M.sl (M.opd (M.slot 2)) (M.pure none) (M.part (M.opd (M.slot 4))))) (M.opd (M.slot 5)))) (M.opd (M.sl (M.opd (M.slot 2)) (M.part (M.opd (M.op2 vAdd (M.opd (M.slot 4)) (M.opd (M.pure (.sh (.int 1))))))) (M.pure none)))))
    S.nop) S.nop)
    (S.seq (S.ret 1 (M.op2 vAdd (M.opd (M.op2 vAdd (M.opd (M.sl (M.opd (M.slot 2)) (M.pure none) (M.part (M.opd (M.op2 vAdd (M.opd (M.slot 4)) (M.opd (M.pure (.sh (.int 1))))))))) (M.opd (M.slot 5)))) (M.opd (M.sl (M.opd (M.slot 2)) (M.part (M.opd (M.op2 vAdd (M.opd (M.slot 4)) (M.opd (M.pure (.sh (.int 1))))))) (M.pure none)))))
    S.nop)))))))))))
theorem e_law_bad_name (k : Nat) : d_law_bad_name.cf (glAt dts gcs (k + 1)) = runDef (fxOf 1 []) 1 5 (b_law_bad_name (d_law_take.cf (glAt dts gcs k)) (d_law_some.cf (glAt dts gcs k)) (d_law_name.cf (glAt dts gcs k))) := by kernel_rfl
def b_law_text (c_law_take c_law_pick c_law_some c_law_name c_law_bad_name : List D → CO) : S := (S.seq (S.asg (fxOf 1 []) false 1 (M.pure (.sh (.str " !\"#$&'()*+,-./0123456789:;<=>?@ABCDEFGHIJKLMNOPQRSTUVWXYZ[\\]^_`abcdefghijklmnopqrstuvwxyz{|}~\n"))))
    (S.seq (S.asg (fxOf 1 []) false 2 (M.pure (.sh (.str "abcdefghijklmnopqrstuvwxyz0123456789"))))
    (S.seq (S.asg (fxOf 1 []) false 3 (M.call c_law_take (M.cons (M.opd (M.slot 0)) (M.cons (M.opd (M.pure (.sh (.int 8)))) (M.pure [])))))
    (S.seq (S.ite (M.toB (M.op2 vLt (M.opd (M.slot 3)) (M.opd (M.pure (.sh (.int 3)))))) (S.seq (S.ret 1 (M.call c_law_name (M.cons (M.opd (M.slot 0)) (M.pure []))))
    S.nop) S.nop)
    (S.seq (S.ite (M.toB (M.op2 vEq (M.opd (M.slot 3)) (M.opd (M.pure (.sh (.int 3)))))) (S.seq (S.ret 1 (M.call c_law_bad_name (M.cons (M.opd (M.slot 0)) (M.pure []))))
    S.nop) S.nop)
    (S.seq (S.ite (M.toB (M.op2 vEq (M.opd (M.slot 3)) (M.opd (M.pure (.sh (.int 4)))))) (S.seq (S.asg (fxOf 1 []) false 4 (M.call c_law_name (M.cons (M.opd (M.slot 0)) (M.pure []))))
    (S.seq (S.asg (fxOf 1 []) false 5 (M.call c_law_some (M.cons (M.opd (M.slot 0)) (M.cons (M.opd (M.pure (.sh (.int 0)))) (M.cons (M.opd (M.fn vLen (M.cons (M.opd (M.slot 4)) (M.pure [])))) (M.pure []))))))
    (S.seq (S.ret 1 (M.op2 vAdd (M.opd (M.op2 vAdd (M.opd (M.sl (M.opd (M.slot 4)) (M.pure none) (M.part (M.opd (M.slot 5))))) (M.opd (M.pure (.sh (.str "\n")))))) (M.opd (M.sl (M.opd (M.slot 4)) (M.part (M.opd (M.slot 5))) (M.pure none)))))
    S.nop))) S.nop)
    (S.seq (S.asg (fxOf 1 []) false 6 (M.call c_law_some (M.cons (M.opd (M.slot 0)) (M.cons (M.opd (M.pure (.sh (.int 0)))) (M.cons (M.opd (M.pure (.sh (.int 10)))) (M.pure []))))))
    (S.seq (S.ite (M.toB (M.op2 vEq (M.opd (M.slot 3)) (M.opd (M.pure (.sh (.int 5)))))) (S.seq (S.asg (fxOf 1 []) false 6 (M.op2 vAdd (M.opd (M.pure (.sh (.int 6)))) (M.opd (M.call c_law_take (M.cons (M.opd (M.slot 0)) (M.cons (M.opd (M.pure (.sh (.int 5)))) (M.pure [])))))))
    S.nop) S.nop)
    (S.seq (S.ite (M.toB (M.op2 vEq (M.opd (M.slot 3)) (M.opd (M.pure (.sh (.int 6)))))) (S.seq (S.asg (fxOf 1 []) false 6 (M.call c_law_some (M.cons (M.opd (M.slot 0)) (M.cons (M.opd (M.pure (.sh (.int 0)))) (M.cons (M.opd (M.pure (.sh (.int 60)))) (M.pure []))))))
    S.nop) S.nop)
    (S.seq (S.asg (fxOf 1 []) false 7 (M.pure (.sh (.str ""))))
    (S.seq (S.for_ (Tgt.put (fxOf 1 []) (.slot 8)) (S.seq (S.ite (M.andB (M.toB (M.op2 vNe (M.opd (M.slot 3)) (M.opd (M.pure (.sh (.int 5)))))) (M.toB (M.op2 vEq (M.opd (M.call c_law_take (M.cons (M.opd (M.slot 0)) (M.cons (M.opd (M.pure (.sh (.int 4)))) (M.pure []))))) (M.opd (M.pure (.sh (.int 0))))))) (S.seq (S.asg (fxOf 1 []) false 7 (M.op2 vAdd (M.opd (M.slot 7)) (M.opd (M.call c_law_pick (M.cons (M.opd (M.slot 0)) (M.cons (M.opd (M.slot 1)) (M.pure [])))))))
    S.nop) (S.seq (S.asg (fxOf 1 []) false 7 (M.op2 vAdd (M.opd (M.slot 7)) (M.opd (M.call c_law_pick (M.cons (M.opd (M.slot 0)) (M.cons (M.opd (M.slot 2)) (M.pure [])))))))
    S.nop))
    S.nop) (M.rng1 (M.opd (M.slot 6))))
    (S.seq (S.ret 1 (M.slot 7))
    S.nop))))))))))))
theorem e_law_text (k : Nat) : d_law_text.cf (glAt dts gcs (k + 1)) = runDef (fxOf 1 []) 1 8 (b_law_text (d_law_take.cf (glAt dts gcs k)) (d_law_pick.cf (glAt dts gcs k)) (d_law_some.cf (glAt dts gcs k)) (d_law_name.cf (glAt dts gcs k)) (d_law_bad_name.cf (glAt dts gcs k))) := by kernel_rfl
def b_law_near : S := (S.seq (S.asg (fxOf 1 []) false 1 (M.list (M.cons (M.opd (M.op2 vAdd (M.opd (M.slot 0)) (M.opd (M.pure (.sh (.str "\n")))))) (M.cons (M.opd (M.op2 vAdd (M.opd (M.pure (.sh (.str "\n")))) (M.opd (M.slot 0)))) (M.cons (M.opd (M.op2 vAdd (M.opd (M.slot 0)) (M.opd (M.pure (.sh (.str " ")))))) (M.cons (M.opd (M.op2 vAdd (M.opd (M.pure (.sh (.str " ")))) (M.opd (M.slot 0)))) (M.cons (M.opd (M.op2 vAdd (M.opd (M.meth mUpper "str" (M.opd (M.sl (M.opd (M.slot 0)) (M.pure none) (M.part (M.opd (M.pure (.sh (.int 1))))))) (M.pure []))) (M.opd (M.sl (M.opd (M.slot 0)) (M.part (M.opd (M.pure (.sh (.int 1))))) (M.pure none))))) (M.cons (M.opd (M.op2 vAdd (M.opd (M.pure (.sh (.str "7")))) (M.opd (M.sl (M.opd (M.slot 0)) (M.pure none) (M.part (M.opd (M.pure (.sh (.int 7))))))))) (M.pure [])))))))))
    (S.seq (S.ret 1 (M.op2 vAdd (M.opd (M.slot 1)) (M.opd (M.list (M.cons (M.opd (M.sl (M.opd (M.op2 vAdd (M.opd (M.slot 0)) (M.opd (M.pure (.sh (.str "a0zb1yc2")))))) (M.pure none) (M.part (M.opd (M.pure (.sh (.int 8))))))) (M.cons (M.opd (M.sl (M.opd (M.op2 vAdd (M.opd (M.slot 0)) (M.opd (M.pure (.sh (.str "a0zb1yc2")))))) (M.pure none) (M.part (M.opd (M.pure (.sh (.int 9))))))) (M.cons (M.opd (M.sl (M.opd (M.slot 0)) (M.pure none) (M.part (M.opd (M.pure (.sh (.int 1))))))) (M.cons (M.opd (M.op2 vAdd (M.opd (M.slot 0)) (M.opd (M.slot 0)))) (M.pure [])))))))))
    S.nop))
theorem e_law_near (k : Nat) : d_law_near.cf (glAt dts gcs (k + 1)) = runDef (fxOf 1 []) 1 1 (b_law_near ) := by kernel_rfl
def b_law_form : S := (S.seq (S.asg (fxOf 1 []) false 1 (M.pure (.sh (.str "abcdefghijklmnopqrstuvwxyz"))))
    (S.seq (S.asg (fxOf 1 []) false 2 (M.lc (Tgt.put (fxOf 0 []) (.slot 3)) [3] (M.iter (M.opd (M.slot 0))) (M.toB (M.op2 vIn (M.opd (M.slot 3)) (M.opd (M.op2 vAdd (M.opd (M.slot 1)) (M.opd (M.pure (.sh (.str "0123456789")))))))) (M.slot 3)))
    (S.seq (S.ret 1 (M.andE (M.chain3 vLe vEq vLe (M.opd (M.pure (.sh (.int 1)))) (M.opd (M.fn vLen (M.cons (M.opd (M.slot 2)) (M.pure [])))) (M.opd (M.fn vLen (M.cons (M.opd (M.slot 0)) (M.pure [])))) (M.opd (M.pure (.sh (.int 8))))) (M.op2 vIn (M.opd (M.op2 vIx (M.opd (M.slot 0)) (M.opd (M.pure (.sh (.int 0)))))) (M.opd (M.slot 1)))))
    S.nop)))
theorem e_law_form (k : Nat) : d_law_form.cf (glAt dts gcs (k + 1)) = runDef (fxOf 1 []) 1 3 (b_law_form ) := by kernel_rfl
def b_law_cut : S := (S.seq (S.ret 1 (M.fn vMax (M.cons (M.opd (M.op2 vSub (M.opd (M.pure (.sh (.int 1)))) (M.opd (M.op2 vPow (M.opd (M.pure (.sh (.int 10)))) (M.opd (M.pure (.sh (.int 60)))))))) (M.cons (M.opd (M.fn vMin (M.cons (M.opd (M.op2 vSub (M.opd (M.op2 vPow (M.opd (M.pure (.sh (.int 10)))) (M.opd (M.pure (.sh (.int 60)))))) (M.opd (M.pure (.sh (.int 1)))))) (M.cons (M.opd (M.slot 0)) (M.pure []))))) (M.pure [])))))
    S.nop)
theorem e_law_cut (k : Nat) : d_law_cut.cf (glAt dts gcs (k + 1)) = runDef (fxOf 1 []) 1 0 (b_law_cut ) := by kernel_rfl
def b_law_question (c_law_take c_law_cut c_law_pick c_law_number : List D → CO) : S := (S.seq (S.asg (fxOf 1 []) false 1 (M.call c_law_number (M.cons (M.opd (M.slot 0)) (M.pure []))))
    (S.seq (S.asg (fxOf 1 []) false 2 (M.call c_law_number (M.cons (M.opd (M.slot 0)) (M.pure []))))
    (S.seq (S.asg (fxOf 1 []) false 3 (M.call c_law_take (M.cons (M.opd (M.slot 0)) (M.cons (M.opd (M.pure (.sh (.int 4)))) (M.pure [])))))
    (S.seq (S.ite (M.toB (M.op2 vLt (M.opd (M.slot 3)) (M.opd (M.pure (.sh (.int 2)))))) (S.seq (S.asg (fxOf 1 []) false 2 (M.call c_law_cut (M.cons (M.opd (M.op2 vSub (M.opd (M.op2 vAdd (M.opd (M.slot 1)) (M.opd (M.call c_law_take (M.cons (M.opd (M.slot 0)) (M.cons (M.opd (M.pure (.sh (.int 5)))) (M.pure []))))))) (M.opd (M.pure (.sh (.int 1)))))) (M.pure []))))
    S.nop) S.nop)
    (S.seq (S.ite (M.toB (M.op2 vEq (M.opd (M.slot 3)) (M.opd (M.pure (.sh (.int 2)))))) (S.seq (S.asg (fxOf 1 []) false 1 (M.op2 vSub (M.opd (M.call c_law_take (M.cons (M.opd (M.slot 0)) (M.cons (M.opd (M.pure (.sh (.int 3)))) (M.pure []))))) (M.opd (M.pure (.sh (.int 1))))))
    S.nop) S.nop)
    (S.seq (S.asg (fxOf 1 []) false 4 (M.list (M.cons (M.opd (M.op2 vSub (M.opd (M.slot 1)) (M.opd (M.pure (.sh (.int 1)))))) (M.cons (M.opd (M.slot 1)) (M.cons (M.opd (M.op2 vAdd (M.opd (M.slot 1)) (M.opd (M.pure (.sh (.int 1)))))) (M.cons (M.opd (M.op2 vSub (M.opd (M.slot 2)) (M.opd (M.pure (.sh (.int 1)))))) (M.cons (M.opd (M.slot 2)) (M.cons (M.opd (M.op2 vAdd (M.opd (M.slot 2)) (M.opd (M.pure (.sh (.int 1)))))) (M.cons (M.opd (M.pure (.sh (.int 0)))) (M.cons (M.opd (M.pure (.sh (.int 1)))) (M.cons (M.opd (M.call c_law_number (M.cons (M.opd (M.slot 0)) (M.pure [])))) (M.cons (M.opd (M.op2 vFdiv (M.opd (M.op2 vAdd (M.opd (M.slot 1)) (M.opd (M.slot 2)))) (M.opd (M.pure (.sh (.int 2)))))) (M.pure [])))))))))))))
    (S.seq (S.asg (fxOf 1 []) false 5 (M.call c_law_cut (M.cons (M.opd (M.call c_law_pick (M.cons (M.opd (M.slot 0)) (M.cons (M.opd (M.slot 4)) (M.pure []))))) (M.pure []))))
    (S.seq (S.ite (M.toB (M.op2 vEq (M.opd (M.call c_law_take (M.cons (M.opd (M.slot 0)) (M.cons (M.opd (M.pure (.sh (.int 4)))) (M.pure []))))) (M.opd (M.pure (.sh (.int 0)))))) (S.seq (S.asg (fxOf 1 []) false 5 (M.call c_law_take (M.cons (M.opd (M.slot 0)) (M.cons (M.opd (M.pure (.sh (.int 2)))) (M.pure [])))))
    S.nop) S.nop)
    (S.seq (S.ret 1 (M.tuple (M.cons (M.opd (M.slot 5)) (M.cons (M.opd (M.slot 1)) (M.cons (M.opd (M.slot 2)) (M.pure []))))))
    S.nop)))))))))
theorem e_law_question (k : Nat) : d_law_question.cf (glAt dts gcs (k + 1)) = runDef (fxOf 1 []) 1 5 (b_law_question (d_law_take.cf (glAt dts gcs k)) (d_law_cut.cf (glAt dts gcs k)) (d_law_pick.cf (glAt dts gcs k)) (d_law_number.cf (glAt dts gcs k))) := by kernel_rfl
def b_law_texts_fine (c_law_same c_law_form c_is_name : List D → CO) : S := (S.seq (S.for_ (Tgt.put (fxOf 1 []) (.slot 1)) (S.seq (S.ite (M.notB (M.toB (M.call c_law_same (M.cons (M.opd (M.call c_is_name (M.cons (M.opd (M.slot 1)) (M.pure [])))) (M.cons (M.opd (M.call c_law_form (M.cons (M.opd (M.slot 1)) (M.pure [])))) (M.pure [])))))) (S.seq (S.ret 1 (M.pure (.sh (.bl false))))
    S.nop) S.nop)
    S.nop) (M.iter (M.opd (M.slot 0))))
    (S.seq (S.ret 1 (M.pure (.sh (.bl true))))
    S.nop))
theorem e_law_texts_fine (k : Nat) : d_law_texts_fine.cf (glAt dts gcs (k + 1)) = runDef (fxOf 1 []) 1 1 (b_law_texts_fine (d_law_same.cf (glAt dts gcs k)) (d_law_form.cf (glAt dts gcs k)) (d_is_name.cf (glAt dts gcs k))) := by kernel_rfl
def b_law_numbers_fine (c_law_same c_is_number : List D → CO) : S := (S.seq (S.for_ (Tgt.put (fxOf 1 []) (.tup [(.slot 1), (.slot 2), (.slot 3)])) (S.seq (S.ite (M.notB (M.toB (M.call c_law_same (M.cons (M.opd (M.call c_is_number (M.cons (M.opd (M.slot 1)) (M.cons (M.opd (M.slot 2)) (M.cons (M.opd (M.slot 3)) (M.pure [])))))) (M.cons (M.opd (M.andE (M.op2 vLe (M.opd (M.slot 2)) (M.opd (M.slot 1))) (M.op2 vLe (M.opd (M.slot 1)) (M.opd (M.slot 3))))) (M.pure [])))))) (S.seq (S.ret 1 (M.pure (.sh (.bl false))))
    S.nop) S.nop)
    (S.seq (S.ite (M.orB (M.toB (M.op2 vEq (M.opd (M.slot 1)) (M.opd (M.pure (.sh (.int 0)))))) (M.toB (M.op2 vEq (M.opd (M.slot 1)) (M.opd (M.pure (.sh (.int 1))))))) (S.seq (S.ite (M.notB (M.toB (M.call c_law_same (M.cons (M.opd (M.call c_is_number (M.cons (M.opd (M.op2 vEq (M.opd (M.slot 1)) (M.opd (M.pure (.sh (.int 1)))))) (M.cons (M.opd (M.slot 2)) (M.cons (M.opd (M.slot 3)) (M.pure [])))))) (M.cons (M.opd (M.pure (.sh (.bl false)))) (M.pure [])))))) (S.seq (S.ret 1 (M.pure (.sh (.bl false))))
    S.nop) S.nop)
    (S.seq (S.ite (M.notB (M.toB (M.call c_law_same (M.cons (M.opd (M.call c_is_number (M.cons (M.opd (M.slot 1)) (M.cons (M.opd (M.slot 2)) (M.cons (M.opd (M.slot 3)) (M.pure [])))))) (M.cons (M.opd (M.andE (M.op2 vLe (M.opd (M.slot 2)) (M.opd (M.slot 1))) (M.op2 vLe (M.opd (M.slot 1)) (M.opd (M.slot 3))))) (M.pure [])))))) (S.seq (S.ret 1 (M.pure (.sh (.bl false))))
    S.nop) S.nop)
    S.nop)) S.nop)
    S.nop)) (M.iter (M.opd (M.slot 0))))
    (S.seq (S.ret 1 (M.pure (.sh (.bl true))))
    S.nop))
theorem e_law_numbers_fine (k : Nat) : d_law_numbers_fine.cf (glAt dts gcs (k + 1)) = runDef (fxOf 1 []) 1 3 (b_law_numbers_fine (d_law_same.cf (glAt dts gcs k)) (d_is_number.cf (glAt dts gcs k))) := by kernel_rfl
def b_law_constants_fine (c_law_same : List D → CO) : S := (S.seq (S.asg (fxOf 0 []) false 0 (M.list (M.cons (M.opd (M.pure (.sh (.int 10)))) (M.cons (M.opd (M.pure (.sh (.int 24)))) (M.cons (M.opd (M.pure (.sh (.int 9999)))) (M.cons (M.opd (M.pure (.sh (.int 200)))) (M.cons (M.opd (M.pure (.sh (.int 400)))) (M.cons (M.opd (M.pure (.sh (.int 64)))) (M.cons (M.opd (M.pure (.sh (.int 8)))) (M.pure []))))))))))
    (S.seq (S.asg (fxOf 0 []) false 1 (M.list (M.cons (M.opd (M.pure (.sh (.int 10)))) (M.cons (M.opd (M.pure (.sh (.int 24)))) (M.cons (M.opd (M.pure (.sh (.int 9999)))) (M.cons (M.opd (M.pure (.sh (.int 200)))) (M.cons (M.opd (M.pure (.sh (.int 400)))) (M.cons (M.opd (M.pure (.sh (.int 64)))) (M.cons (M.opd (M.pure (.sh (.int 8)))) (M.pure []))))))))))
    (S.seq (S.asg (fxOf 0 []) false 0 (M.op2 vAdd (M.opd (M.slot 0)) (M.opd (M.list (M.cons (M.opd (M.pure (.sh (.int 5)))) (M.cons (M.opd (M.pure (.sh (.int 6)))) (M.cons (M.opd (M.pure (.sh (.int 4)))) (M.cons (M.opd (M.pure (.sh (.int 3)))) (M.cons (M.opd (M.pure (.sh (.int 7)))) (M.cons (M.opd (M.pure (.sh (.int 9)))) (M.cons (M.opd (M.pure (.sh (.int 21)))) (M.pure []))))))))))))
    (S.seq (S.asg (fxOf 0 []) false 1 (M.op2 vAdd (M.opd (M.slot 1)) (M.opd (M.list (M.cons (M.opd (M.pure (.sh (.int 5)))) (M.cons (M.opd (M.pure (.sh (.int 6)))) (M.cons (M.opd (M.pure (.sh (.int 4)))) (M.cons (M.opd (M.pure (.sh (.int 3)))) (M.cons (M.opd (M.pure (.sh (.int 7)))) (M.cons (M.opd (M.pure (.sh (.int 9)))) (M.cons (M.opd (M.pure (.sh (.int 21)))) (M.pure []))))))))))))
    (S.seq (S.asg (fxOf 0 []) false 0 (M.op2 vAdd (M.opd (M.slot 0)) (M.opd (M.list (M.cons (M.opd (M.pure (.sh (.int 8)))) (M.cons (M.opd (M.pure (.sh (.int 6)))) (M.cons (M.opd (M.pure (.sh (.int 40)))) (M.cons (M.opd (M.pure (.sh (.int 4)))) (M.cons (M.opd (M.pure (.sh (.int 90)))) (M.cons (M.opd (M.pure (.sh (.int 60)))) (M.pure [])))))))))))
    (S.seq (S.asg (fxOf 0 []) false 1 (M.op2 vAdd (M.opd (M.slot 1)) (M.opd (M.list (M.cons (M.opd (M.pure (.sh (.int 8)))) (M.cons (M.opd (M.pure (.sh (.int 6)))) (M.cons (M.opd (M.pure (.sh (.int 40)))) (M.cons (M.opd (M.pure (.sh (.int 4)))) (M.cons (M.opd (M.pure (.sh (.int 90)))) (M.cons (M.opd (M.pure (.sh (.int 60)))) (M.pure [])))))))))))
    (S.seq (S.ret 0 (M.call c_law_same (M.cons (M.opd (M.slot 0)) (M.cons (M.opd (M.slot 1)) (M.pure [])))))
    S.nop)))))))
theorem e_law_constants_fine (k : Nat) : d_law_constants_fine.cf (glAt dts gcs (k + 1)) = runDef (fxOf 0 []) 0 2 (b_law_constants_fine (d_law_same.cf (glAt dts gcs k))) := by kernel_rfl
def b_law (c_law_numbers_fine c_law_texts_fine c_law_constants_fine c_law_question c_law_form c_law_near c_law_text c_law_store : List D → CO) : S := (S.seq (S.asg (fxOf 1 []) true 1 (M.call c_law_store (M.cons (M.opd (M.slot 0)) (M.pure []))))
    (S.seq (S.asg (fxOf 1 []) false 2 (M.lc (Tgt.put (fxOf 0 []) (.slot 3)) [3] (M.rng1 (M.opd (M.pure (.sh (.int 6))))) (M.pure true) (M.call c_law_text (M.cons (M.opd (M.slot 1)) (M.pure [])))))
    (S.seq (S.asg (fxOf 1 []) true 4 (M.list (M.pure [])))
    (S.seq (S.for_ (Tgt.put (fxOf 1 []) (.slot 5)) (S.seq (S.drop (M.lmt 4 lAppend (M.cons (M.opd (M.slot 5)) (M.pure []))))
    (S.seq (S.ite (M.toB (M.call c_law_form (M.cons (M.opd (M.slot 5)) (M.pure [])))) (S.seq (S.asg (fxOf 1 []) true 4 (M.op2 vAdd (M.opd (M.slot 4)) (M.opd (M.call c_law_near (M.cons (M.opd (M.slot 5)) (M.pure []))))))
    S.nop) S.nop)
    S.nop)) (M.iter (M.opd (M.slot 2))))
    (S.seq (S.asg (fxOf 1 []) false 6 (M.lc (Tgt.put (fxOf 0 []) (.slot 3)) [3] (M.rng1 (M.opd (M.pure (.sh (.int 6))))) (M.pure true) (M.call c_law_question (M.cons (M.opd (M.slot 1)) (M.pure [])))))
    (S.seq (S.ite (M.orB (M.notB (M.toB (M.call c_law_constants_fine (M.pure [])))) (M.orB (M.notB (M.toB (M.call c_law_texts_fine (M.cons (M.opd (M.slot 4)) (M.pure []))))) (M.notB (M.toB (M.call c_law_numbers_fine (M.cons (M.opd (M.slot 6)) (M.pure []))))))) (S.seq (S.ret 1 (M.pure (.sh (.bl false))))
    S.nop) S.nop)
    (S.seq (S.ret 1 (M.andE (M.call c_law_texts_fine (M.cons (M.opd (M.rev (M.opd (M.slot 4)))) (M.pure []))) (M.call c_law_numbers_fine (M.cons (M.opd (M.rev (M.opd (M.slot 6)))) (M.pure [])))))
    S.nop)))))))
theorem e_law (k : Nat) : d_law.cf (glAt dts gcs (k + 1)) = runDef (fxOf 1 []) 1 6 (b_law (d_law_numbers_fine.cf (glAt dts gcs k)) (d_law_texts_fine.cf (glAt dts gcs k)) (d_law_constants_fine.cf (glAt dts gcs k)) (d_law_question.cf (glAt dts gcs k)) (d_law_form.cf (glAt dts gcs k)) (d_law_near.cf (glAt dts gcs k)) (d_law_text.cf (glAt dts gcs k)) (d_law_store.cf (glAt dts gcs k))) := by kernel_rfl
end VL.K00

set_option Elab.async false
set_option linter.all false
set_option maxRecDepth 100000
set_option maxHeartbeats 0
namespace VL.K00
open PySem PySem.Spec PyProof.Rows L2
abbrev oRow : PySem.W.OpenRow := PySem.W.OpenLaw.row PySem.Challenge.rw_drowsefolk_k00_names_and_numbers
abbrev hkL : PySem.W.Hook := He.hookD 4 (faOf dts gcs) (dts.map DT.dd)
def obL (s : PySem.W.SharedT) : He.AlD := He.obsDG 4 (faOf dts gcs) (dts.map DT.dd) (HandSHeadRun.getT s)
theorem obL_eq (s : PySem.W.SharedT) : obL s = hkL.obs s.abs := He.obsDG_eq (HandSHeadRun.getT_eq s)
def lo0 : List PySem.Str := ["is_name", "is_number", "_law_store", "_law_next", "_law_raw", "_law_take", "_law_some", "_law_number", "_law_pick", "_law_same", "_law_name", "_law_bad_name"]
def lo1 : List PySem.Str := ["_law_text", "_law_near", "_law_form", "_law_cut", "_law_question", "_law_texts_fine", "_law_numbers_fine", "_law_constants_fine", "MOST_FOLK", "MOST_WATCHES", "MOST_NUMBER", "MOST_DEEDS"]
def lo2 : List PySem.Str := ["CLASS_LIMIT", "SMALL_CLASS", "SUBSET_LIMIT", "RENAME_LIMIT", "KEEPER_LIMIT", "LIGHT_LIMIT", "MOST_BORDER", "MOST_OUTER", "PIECE_FOLK", "PIECE_WATCHES", "MOST_SIGHTINGS", "MOST_GAP"]
def lo3 : List PySem.Str := ["MOST_LINES", "MOST_DEPTH", "MOST_TICKS", "MOST_ROWS", "LONGEST_NAME", "LETTERS", "LETTERS_AND_DIGITS"]
def looseL : List PySem.Str := lo0 ++ lo1 ++ lo2 ++ lo3
theorem runL (w : World) : HandSHeadRun.RunEq oRow (PySem.W.view oRow.prog [45]) hkL obL 4000 looseL w := by
  intro os
  kernel_rfl
theorem allOk : dts.all DT.ok = true := by decide +kernel
theorem law_in : d_law ∈ dts := List.mem_of_getElem? (i := 20) rfl
end VL.K00

set_option Elab.async false
set_option linter.all false
set_option maxRecDepth 100000
set_option maxHeartbeats 4000000
namespace VL.K00
open PySem PySem.Spec L2 VL Dr
/-- a is in b -/
def inS (a b : Str) : Bool := !(Builtin.Str.occurrences b a 0 b.length 1).isEmpty
theorem in_ss (a b : Str) : vIn (.str a) (.str b) = some (.sh (.bl (inS a b))) := rfl
theorem notIn_ss (a b : Str) : vNotIn (.str a) (.str b) = some (.sh (.bl (!inS a b))) := rfl
def lets : Str := "abcdefghijklmnopqrstuvwxyz"
def ldig : Str := "abcdefghijklmnopqrstuvwxyz0123456789"
def P (d : D) : Bool := match d with
  | .str a => inS a ldig
  | _ => false
theorem P_str (a : Str) : P (.str a) = inS a ldig := rfl
def first (z : Str) : Str := ⟨#[z.cps.toList.getD 0 0]⟩
/-- what is_name answers -/
def isN (z : Str) : Bool := decide (1 ≤ z.length) && decide (z.length ≤ 8) && (signs z).all P && inS (first z) lets
theorem ix0 (z : Str) (h0 : 1 ≤ z.length) (h : z.length ≤ sizeLine) : vIx (.str z) (.int 0) = some (.sh (.str (first z))) := by
  show (if z.length ≤ sizeLine then _ else none) = _
  rw [if_pos h, atI_pos _ _ (Int.le_refl 0)]
  have hi : 0 < z.cps.toList.length := h0
  unfold first
  simp [List.getElem?_eq_getElem hi, List.getD]
theorem signs_mem {z : Str} {d : D} (h : d ∈ signs z) : ∃ c, d = .str ⟨#[c]⟩ := by
  unfold signs at h
  obtain ⟨c, _, rfl⟩ := List.mem_map.mp h
  exact ⟨c, rfl⟩
theorem name_loop {z : Str} : ∀ {ds : List D} {o : Option D}, (∀ d ∈ ds, ∃ c, d = .str ⟨#[c]⟩) → ∃ o', S.forL (Tgt.put (fxOf 1 []) (.slot 1)) (S.seq (S.ite (M.toB (M.op2 vNotIn (M.opd (M.slot 1)) (M.opd (M.pure (.sh (.str ldig)))))) (S.seq (S.ret 1 (M.pure (.sh (.bl false)))) S.nop) S.nop) S.nop) ds [some (.str z), o] =
    if ds.all P = true then .nx [some (.str z), o'] else .ret (.sh (.bl false)) [some (.str z), o']
  | [], o, _ => ⟨o, by simp [S.forL]⟩
  | d :: ds, o, h => by
    obtain ⟨c, rfl⟩ := h d (List.mem_cons_self ..)
    unfold S.forL
    have put : Tgt.put (fxOf 1 []) (.slot 1) (.str ⟨#[c]⟩) [some (.str z), o] = some [some (.str z), some (.str ⟨#[c]⟩)] := by simp [Tgt.put, fxOf]
    rw [put]
    dsimp only
    cases hp : inS ⟨#[c]⟩ ldig with
    | true =>
      obtain ⟨o', e⟩ := name_loop (z := z) (ds := ds) (o := some (.str ⟨#[c]⟩)) fun d hd => h d (List.mem_cons_of_mem _ hd)
      refine ⟨o', ?_⟩
      simp [notIn_ss, hp, P_str]
      simpa using e
    | false =>
      refine ⟨some (.str ⟨#[c]⟩), ?_⟩
      simp [notIn_ss, hp, P_str]
theorem is_name_ok (z : Str) (h : z.length ≤ sizeLine) : runDef (fxOf 1 []) 1 1 b_is_name [.str z] = .ok (.bl (isN z)) [some (.str z)] := by
  by_cases h1 : z.length < 1
  · have hn : ((z.length : Int) < 1) := by omega
    have : isN z = false := by unfold isN; rw [decide_eq_false (by omega)]; rfl
    simp [runDef, okArgs, b_is_name, fxOf, outs, len_str _ h, hn, this]
  · have hn : ¬ ((z.length : Int) < 1) := by omega
    by_cases h2 : 8 < z.length
    · have hn2 : ((8 : Int) < (z.length : Int)) := by omega
      have : isN z = false := by unfold isN; rw [decide_eq_false (by omega : ¬ z.length ≤ 8)]; simp
      simp [runDef, okArgs, b_is_name, fxOf, outs, len_str _ h, hn, hn2, this]
    · have hn2 : ¬ ((8 : Int) < (z.length : Int)) := by omega
      have hi := ix0 z (by omega) h
      have hin : inS (first z) "abcdefghijklmnopqrstuvwxyz" = inS (first z) lets := rfl
      cases hf : inS (first z) lets with
      | false =>
        have : isN z = false := by unfold isN; rw [hf, Bool.and_false]
        simp [runDef, okArgs, b_is_name, fxOf, outs, len_str _ h, hn, hn2, hi, notIn_ss, hin, hf, this]
      | true =>
        obtain ⟨o', e⟩ := name_loop (z := z) (ds := signs z) (o := none) fun d hd => signs_mem hd
        have e : S.forL (Tgt.put (fxOf 1 []) (.slot 1)) (S.seq (S.ite (M.toB (M.op2 vNotIn (M.opd (M.slot 1)) (M.opd (M.pure (.sh (.str "abcdefghijklmnopqrstuvwxyz0123456789")))))) (S.seq (S.ret 1 (M.pure (.sh (.bl false)))) S.nop) S.nop) S.nop) (signs z) [some (.str z), none] =
          if (signs z).all P = true then .nx [some (.str z), o'] else .ret (.sh (.bl false)) [some (.str z), o'] := e
        have hv : isN z = (signs z).all P := by unfold isN; rw [hf, decide_eq_true (by omega : 1 ≤ z.length), decide_eq_true (by omega : z.length ≤ 8)]; simp
        cases ha : (signs z).all P with
        | true =>
          rw [ha, if_pos rfl] at e
          rw [hv, ha]
          simp [runDef, okArgs, b_is_name, fxOf, outs, len_str _ h, hn, hn2, hi, notIn_ss, hin, hf, e]
        | false =>
          rw [ha, if_neg (by decide)] at e
          rw [hv, ha]
          simp [runDef, okArgs, b_is_name, fxOf, outs, len_str _ h, hn, hn2, hi, notIn_ss, hin, hf, e]
end VL.K00

set_option Elab.async false
set_option linter.all false
set_option maxRecDepth 100000
set_option maxHeartbeats 4000000
namespace VL
open PySem PySem.Spec L2 Dr
theorem link_i {vf : D → D → Option RV} {y : RV} {k : RV → M RV} {c : M RV} {g : G} {z : RV} {a d : D} {b : Bool} (hc : c g = .ok z g) (hl : y.live g = true) (ha : y.at g = some a) (hd : z.at g = some d) (e : vf a d = some (.sh (.bl b))) : M.link vf y c k g = if b = true then k z g else .ok (.sh (.bl false)) g := by
  unfold M.link
  rw [bind_ok hc]
  simp only [hl, ha, hd, e, if_true]
  cases b <;> rfl
theorem linkL_i {vf : D → D → Option RV} {y : RV} {c : M RV} {g : G} {z : RV} {a d : D} {b : Bool} (hc : c g = .ok z g) (hl : y.live g = true) (ha : y.at g = some a) (hd : z.at g = some d) (e : vf a d = some (.sh (.bl b))) : M.linkL vf y c g = .ok (.sh (.bl b)) g := by
  unfold M.linkL
  rw [bind_ok hc]
  simp [hl, ha, hd, e]
theorem chain3_i {a b c d : M RV} {g : G} {i j k l : Int} (ha : a g = .ok (.sh (.int i)) g) (hb : b g = .ok (.sh (.int j)) g) (hc : c g = .ok (.sh (.int k)) g) (hd : d g = .ok (.sh (.int l)) g) :
    M.chain3 vLe vEq vLe a b c d g = .ok (.sh (.bl (decide (i ≤ j) && (decide (j = k) && decide (k ≤ l))))) g := by
  unfold M.chain3
  rw [bind_ok ha, link_i hb rfl rfl rfl (le_ii i j)]
  cases decide (i ≤ j) with
  | false => rfl
  | true =>
    rw [if_pos rfl, link_i hc rfl rfl rfl (eq_ii j k)]
    cases decide (j = k) with
    | false => rfl
    | true => rw [if_pos rfl, linkL_i hd rfl rfl rfl (le_ii k l)]; rfl
theorem chain_i {a b c : M RV} {g : G} {i j k : Int} (ha : a g = .ok (.sh (.int i)) g) (hb : b g = .ok (.sh (.int j)) g) (hc : c g = .ok (.sh (.int k)) g) :
    M.chain vLe vLe a b c g = .ok (.sh (.bl (decide (i ≤ j) && decide (j ≤ k)))) g := by
  unfold M.chain
  rw [bind_ok (show M.two a b g = .ok (.sh (.int i), .sh (.int j)) g by simp [ha, hb])]
  simp only [at_sh, le_ii]
  cases decide (i ≤ j) with
  | false => rfl
  | true =>
    dsimp only
    rw [bind_ok hc]
    simp
theorem fzs_strs : ∀ {xs : List D}, (∀ d ∈ xs, ∃ c, d = .str c) → fzs xs = xs
  | [], _ => by simp
  | x :: xs, h => by
    obtain ⟨c, rfl⟩ := h x (List.mem_cons_self ..)
    rw [fzs_cons, fz_str, fzs_strs fun d hd => h d (List.mem_cons_of_mem _ hd)]
end VL
namespace VL.K00
open PySem PySem.Spec L2 VL Dr
theorem ldig_eq : lets ++ ("0123456789" : Str) = ldig := by decide +kernel
theorem signs_len (z : Str) : (signs z).length = z.length := by unfold signs; simp [Str.length]
theorem isN_alt (z : Str) : isN z = ((decide ((1 : Int) ≤ (((signs z).filter P).length : Int)) && (decide ((((signs z).filter P).length : Int) = (z.length : Int)) && decide ((z.length : Int) ≤ 8))) && inS (first z) lets) := by
  unfold isN
  congr 1
  have hl := signs_len z
  cases ha : (signs z).all P with
  | true =>
    have : (signs z).filter P = signs z := List.filter_eq_self.mpr fun d hd => List.all_eq_true.mp ha d hd
    rw [this, hl]
    by_cases h1 : 1 ≤ z.length
    · by_cases h8 : z.length ≤ 8
      · rw [decide_eq_true h1, decide_eq_true h8, decide_eq_true (by omega : (1 : Int) ≤ (z.length : Int)), decide_eq_true (rfl : (z.length : Int) = z.length), decide_eq_true (by omega : (z.length : Int) ≤ 8)]; rfl
      · rw [decide_eq_false h8, decide_eq_false (by omega : ¬ (z.length : Int) ≤ 8)]; simp
    · rw [decide_eq_false h1, decide_eq_false (by omega : ¬ (1 : Int) ≤ (z.length : Int))]; rfl
  | false =>
    have : ¬ ((signs z).filter P).length = z.length := fun e => by
      rw [← hl] at e
      have q := List.length_filter_eq_length_iff.mp e
      rw [List.all_eq_true.mpr q] at ha
      cases ha
    rw [Bool.and_false, decide_eq_false (by omega : ¬ (((signs z).filter P).length : Int) = (z.length : Int))]
    simp
theorem form_ok (z : Str) (h : z.length ≤ sizeLine) : runDef (fxOf 1 []) 1 3 b_law_form [.str z] = .ok (.bl (isN z)) [some (.str z)] := by
  have ha : vAdd (.str lets) (.str "0123456789") = some (.sh (.str ldig)) := by rw [add_ss _ _ (by decide +kernel), ldig_eq]
  obtain ⟨g', e, o, rfl⟩ := lcL_filter (f := Tgt.put (fxOf 0 []) (.slot 3)) (mt := M.toB (M.op2 vIn (M.opd (M.slot 3)) (M.opd (M.op2 vAdd (M.opd (M.slot 1)) (M.opd (M.pure (.sh (.str "0123456789")))))))) (me := M.slot 3) (vs := [3]) (p := P)
    (I := fun g => ∃ o, g = [some (.str z), some (.str lets), none, o]) (ds := signs z) (acc := []) (g := [some (.str z), some (.str lets), none, none]) ⟨_, rfl⟩ (by rw [signs_len]; simpa using h) (fun d hd g ⟨o, eg⟩ => by
      subst eg
      obtain ⟨c, rfl⟩ := signs_mem hd
      refine ⟨[some (.str z), some (.str lets), none, some (.str ⟨#[c]⟩)], by simp [Tgt.put, fxOf], ?_, ?_, _, rfl⟩
      · simp [ha, in_ss, P_str]
      · rw [bind_ok (show M.slot 3 [some (.str z), some (.str lets), none, some (.str ⟨#[c]⟩)] = .ok (.sh (.str ⟨#[c]⟩)) [some (.str z), some (.str lets), none, some (.str ⟨#[c]⟩)] by simp)]
        simp)
  have hz : fzs ((signs z).filter P) = (signs z).filter P := fzs_strs fun d hd => by
    obtain ⟨c, e⟩ := signs_mem (List.mem_filter.mp hd).1
    exact ⟨_, e⟩
  have e : lcL (Tgt.put (fxOf 0 []) (.slot 3)) (M.toB (M.op2 vIn (M.opd (M.slot 3)) (M.opd (M.op2 vAdd (M.opd (M.slot 1)) (M.opd (M.pure (.sh (.str "0123456789")))))))) (M.slot 3) [3] (signs z) [] [some (.str z), some (.str "abcdefghijklmnopqrstuvwxyz"), none, none] =
    .ok ((signs z).filter P) [some (.str z), some (.str "abcdefghijklmnopqrstuvwxyz"), none, o] := e
  have st1 : b_law_form [some (.str z), none, none, none] = (S.ret 1 (M.andE (M.chain3 vLe vEq vLe (M.opd (M.pure (.sh (.int 1)))) (M.opd (M.fn vLen (M.cons (M.opd (M.slot 2)) (M.pure [])))) (M.opd (M.fn vLen (M.cons (M.opd (M.slot 0)) (M.pure [])))) (M.opd (M.pure (.sh (.int 8))))) (M.op2 vIn (M.opd (M.op2 vIx (M.opd (M.slot 0)) (M.opd (M.pure (.sh (.int 0)))))) (M.opd (M.slot 1)))) [some (.str z), some (.str lets), some (.obj false .lst ((signs z).filter P)), none]).then S.nop := by
    unfold b_law_form
    simp [noOwn, e, hz, fxOf]
    rfl
  have c3 := chain3_i (g := [some (.str z), some (.str lets), some (.obj false .lst ((signs z).filter P)), none]) (a := M.opd (M.pure (.sh (.int 1)))) (b := M.opd (M.fn vLen (M.cons (M.opd (M.slot 2)) (M.pure [])))) (c := M.opd (M.fn vLen (M.cons (M.opd (M.slot 0)) (M.pure [])))) (d := M.opd (M.pure (.sh (.int 8))))
    (i := 1) (j := (((signs z).filter P).length : Int)) (k := (z.length : Int)) (l := 8) (by simp) (by simp) (by simp [len_str _ h]) (by simp)
  unfold runDef
  rw [if_pos ⟨rfl, by simp [okArgs, fxOf]⟩]
  have st1 : b_law_form (List.map some [D.str z] ++ List.replicate 3 none) = _ := st1
  rw [st1, isN_alt z]
  simp only [ev_ret, ev_andE, ev_toB, c3, then_ok, ev_toBK, ev_andEK]
  cases hb : (decide ((1 : Int) ≤ (((signs z).filter P).length : Int)) && (decide ((((signs z).filter P).length : Int) = (z.length : Int)) && decide ((z.length : Int) ≤ 8))) with
  | false => simp [outs, fxOf]
  | true =>
    have h1 : 1 ≤ z.length := by
      simp only [Bool.and_eq_true, decide_eq_true_eq] at hb
      omega
    simp [outs, fxOf, ix0 z h1 h, in_ss]
end VL.K00

set_option Elab.async false
set_option linter.all false
set_option maxRecDepth 100000
set_option maxHeartbeats 4000000
namespace VL.K00
open PySem PySem.Spec L2 VL Dr
theorem isi_bb (a : Bool) : vIsi [.bl a, .ty "bool"] = some (.sh (.bl true)) := by
  simp [vIsi, D.tyName, show tyIs "bool" "bool" = some true by decide +kernel]
theorem isi_ib (a : Int) : vIsi [.int a, .ty "bool"] = some (.sh (.bl false)) := by
  simp [vIsi, D.tyName, show tyIs "int" "bool" = some false by decide +kernel]
theorem isi_ii (a : Int) : vIsi [.int a, .ty "int"] = some (.sh (.bl true)) := by
  simp [vIsi, D.tyName, show tyIs "int" "int" = some true by decide +kernel]
theorem eq_bb (a b : Bool) : vEq (.bl a) (.bl b) = some (.sh (.bl (decide (a = b)))) := by
  unfold vEq D.scal
  simp [L2.scal]
def SameB (c : List D → CO) : Prop := ∀ a b : Bool, c [.bl a, .bl b] = .ok (.bl (decide (a = b))) [some (.bl a), some (.bl b)]
theorem same_ok (c : List D → CO) : SameB (runDef (fxOf 2 []) 2 1 (b_law_same c)) := fun a b => by
  simp [runDef, okArgs, b_law_same, fxOf, outs, isi_bb, eq_bb]
def NumOk (c : List D → CO) : Prop := ∀ xs p b n s l t, Ok p b → ∃ r p' b' n' s' l', c [st xs p b n s l t] = .ok (.int r) [some (st xs p' b' n' s' l' t)] ∧ Ok p' b'
theorem pow60 : vPow (.int 10) (.int 60) = some (.sh (.int 1000000000000000000000000000000000000000000000000000000000000)) := by
  unfold vPow
  simp
theorem number_ok {ct : List D → CO} (ht : TakeOk ct) : NumOk (runDef (fxOf 1 []) 1 2 (b_law_number ct)) := fun xs p b n s l t h => by
  obtain ⟨r, p1, b1, n1, s1, l1, e1, h1, r0, r1⟩ := ht xs p b n s l t 5 h (by decide)
  by_cases c0 : r = 0
  · subst c0
    obtain ⟨r, p2, b2, n2, s2, l2, e2, h2, _, _⟩ := ht xs p1 b1 n1 s1 l1 t 20 h1 (by decide)
    exact ⟨r - 6, p2, b2, n2, s2, l2, by simp [runDef, okArgs, b_law_number, fxOf, outs, e1, e2], h2⟩
  · by_cases c1 : r = 1
    · subst c1
      obtain ⟨r, p2, b2, n2, s2, l2, e2, h2, _, _⟩ := ht xs p1 b1 n1 s1 l1 t 20 h1 (by decide)
      exact ⟨9990 + r, p2, b2, n2, s2, l2, by simp [runDef, okArgs, b_law_number, fxOf, outs, e1, e2], h2⟩
    · by_cases c2 : r = 2
      · subst c2
        obtain ⟨r, p2, b2, n2, s2, l2, e2, h2, _, _⟩ := ht xs p1 b1 n1 s1 l1 t 1000000000000000000000000000000000000000000000000000000000000 h1 (by decide +kernel)
        exact ⟨r, p2, b2, n2, s2, l2, by simp [runDef, okArgs, b_law_number, fxOf, outs, e1, e2, pow60], h2⟩
      · by_cases c3 : r = 3
        · subst c3
          obtain ⟨r, p2, b2, n2, s2, l2, e2, h2, _, _⟩ := ht xs p1 b1 n1 s1 l1 t 1000000000000000000000000000000000000000000000000000000000000 h1 (by decide +kernel)
          exact ⟨0 - r, p2, b2, n2, s2, l2, by simp [runDef, okArgs, b_law_number, fxOf, outs, e1, e2, pow60], h2⟩
        · obtain ⟨q, p2, b2, n2, s2, l2, e2, h2, q0, q1⟩ := ht xs p1 b1 n1 s1 l1 t 15 h1 (by decide)
          have q2 := q1 (by decide)
          have hrow : ∀ row : List D, row.length = 15 → (∀ d ∈ row, ∃ i, d = .int i) → ∃ i, L2.atI row q = some (.int i) := fun row hl hd => by
            have hi : q.toNat < row.length := by omega
            obtain ⟨i, e⟩ := hd row[q.toNat] (List.getElem_mem hi)
            exact ⟨i, by rw [atI_pos _ _ q0, List.getElem?_eq_getElem hi, e]⟩
          obtain ⟨i, ei⟩ := hrow [.int 0, .int 1, .int 9999, .int 10000, .int (-1), .int 999999999999999999999999999999999999999999999999999999999999, .int (-999999999999999999999999999999999999999999999999999999999999), .int 60, .int 200, .int 201, .int 12, .int 13, .int 90, .int 91, .int 400] rfl (by simp)
          exact ⟨i, p2, b2, n2, s2, l2, by simp [runDef, okArgs, b_law_number, fxOf, outs, e1, e2, pow60, c0, c1, c2, c3, sizeLine, ei], h2⟩
def CutOk (c : List D → CO) : Prop := ∀ i : Int, ∃ j, c [.int i] = .ok (.int j) [some (.int i)]
theorem max_ii (i j : Int) : vMax [.int i, .int j] = some (.sh (.int (if j > i then j else i))) := rfl
theorem min_ii (i j : Int) : vMin [.int i, .int j] = some (.sh (.int (if j < i then j else i))) := rfl
theorem cut_ok : CutOk (runDef (fxOf 1 []) 1 0 b_law_cut) := fun i => ⟨_, by simp [runDef, okArgs, b_law_cut, fxOf, outs, pow60, max_ii, min_ii]; rfl⟩
def QOk (c : List D → CO) : Prop := ∀ xs p b n s l t, Ok p b → ∃ v lo hi p' b' n' s' l', c [st xs p b n s l t] = .ok (.obj false .tup [.int v, .int lo, .int hi]) [some (st xs p' b' n' s' l' t)] ∧ Ok p' b'
theorem fdiv2 (i : Int) : vFdiv (.int i) (.int 2) = some (.sh (.int (i / 2))) := by
  unfold vFdiv
  simp
theorem question_ok {ct cc cp cn : List D → CO} (ht : TakeOk ct) (hc : CutOk cc) (hp : PickOk cp) (hn : NumOk cn) : QOk (runDef (fxOf 1 []) 1 5 (b_law_question ct cc cp cn)) := fun xs p b n s l t h => by
  obtain ⟨lo, p1, b1, n1, s1, l1, e1, h1⟩ := hn xs p b n s l t h
  obtain ⟨hi, p2, b2, n2, s2, l2, e2, h2⟩ := hn xs p1 b1 n1 s1 l1 t h1
  obtain ⟨r, p3, b3, n3, s3, l3, e3, h3, r0, r1⟩ := ht xs p2 b2 n2 s2 l2 t 4 h2 (by decide)
  -- the end, from any low and high
  have tail : ∀ lo hi p b n s l, Ok p b → ∃ w p1 b1 n1 s1 l1 i p2 b2 n2 s2 l2 j q p3 b3 n3 s3 l3 v p4 b4 n4 s4 l4, cn [st xs p b n s l t] = .ok (.int w) [some (st xs p1 b1 n1 s1 l1 t)] ∧
      cp [st xs p1 b1 n1 s1 l1 t, .obj false .lst [.int (lo - 1), .int lo, .int (lo + 1), .int (hi - 1), .int hi, .int (hi + 1), .int 0, .int 1, .int w, .int ((lo + hi) / 2)]] = .ok (.int i) [some (st xs p2 b2 n2 s2 l2 t), some (.obj false .lst [.int (lo - 1), .int lo, .int (lo + 1), .int (hi - 1), .int hi, .int (hi + 1), .int 0, .int 1, .int w, .int ((lo + hi) / 2)])] ∧
      cc [.int i] = .ok (.int j) [some (.int i)] ∧ ct [st xs p2 b2 n2 s2 l2 t, .int 4] = .ok (.int q) [some (st xs p3 b3 n3 s3 l3 t), some (.int 4)] ∧ ct [st xs p3 b3 n3 s3 l3 t, .int 2] = .ok (.int v) [some (st xs p4 b4 n4 s4 l4 t), some (.int 2)] ∧ Ok p3 b3 ∧ Ok p4 b4 := fun lo hi p b n s l h => by
    obtain ⟨w, p1, b1, n1, s1, l1, e1, h1⟩ := hn xs p b n s l t h
    obtain ⟨d, p2, b2, n2, s2, l2, e2, h2, hd⟩ := hp.1 xs p1 b1 n1 s1 l1 t [.int (lo - 1), .int lo, .int (lo + 1), .int (hi - 1), .int hi, .int (hi + 1), .int 0, .int 1, .int w, .int ((lo + hi) / 2)] h1 (by simp) (by simp [sizeLine]) (by simp)
    obtain ⟨i, rfl⟩ : ∃ i, d = .int i := by
      simp only [List.mem_cons, List.not_mem_nil, or_false] at hd
      rcases hd with rfl | rfl | rfl | rfl | rfl | rfl | rfl | rfl | rfl | rfl <;> exact ⟨_, rfl⟩
    obtain ⟨j, ec⟩ := hc i
    obtain ⟨q, p3, b3, n3, s3, l3, e3, h3, q0, q1⟩ := ht xs p2 b2 n2 s2 l2 t 4 h2 (by decide)
    obtain ⟨v, p4, b4, n4, s4, l4, e4, h4, _, _⟩ := ht xs p3 b3 n3 s3 l3 t 2 h3 (by decide)
    exact ⟨w, p1, b1, n1, s1, l1, i, p2, b2, n2, s2, l2, j, q, p3, b3, n3, s3, l3, v, p4, b4, n4, s4, l4, e1, e2, ec, e3, e4, h3, h4⟩
  by_cases c1 : r < 2
  · obtain ⟨m, p4, b4, n4, s4, l4, e4, h4, _, _⟩ := ht xs p3 b3 n3 s3 l3 t 5 h3 (by decide)
    obtain ⟨hi2, ec⟩ := hc (lo + m - 1)
    obtain ⟨w, p5, b5, n5, s5, l5, i, p6, b6, n6, s6, l6, j, q, p7, b7, n7, s7, l7, v, p8, b8, n8, s8, l8, f1, f2, f3, f4, f5, k7, k8⟩ := tail lo hi2 p4 b4 n4 s4 l4 h4
    have c2 : ¬ r = 2 := by omega
    by_cases cq : q = 0
    · subst cq
      exact ⟨v, lo, hi2, p8, b8, n8, s8, l8, by simp [runDef, okArgs, b_law_question, fxOf, outs, e1, e2, e3, c1, e4, ec, c2, fdiv2, sizeLine, f1, f2, f3, f4, f5], k8⟩
    · exact ⟨j, lo, hi2, p7, b7, n7, s7, l7, by simp [runDef, okArgs, b_law_question, fxOf, outs, e1, e2, e3, c1, e4, ec, c2, fdiv2, sizeLine, f1, f2, f3, f4, cq], k7⟩
  · by_cases c2 : r = 2
    · subst c2
      obtain ⟨m, p4, b4, n4, s4, l4, e4, h4, _, _⟩ := ht xs p3 b3 n3 s3 l3 t 3 h3 (by decide)
      obtain ⟨w, p5, b5, n5, s5, l5, i, p6, b6, n6, s6, l6, j, q, p7, b7, n7, s7, l7, v, p8, b8, n8, s8, l8, f1, f2, f3, f4, f5, k7, k8⟩ := tail (m - 1) hi p4 b4 n4 s4 l4 h4
      rw [Int.sub_add_cancel] at f2
      by_cases cq : q = 0
      · subst cq
        exact ⟨v, m - 1, hi, p8, b8, n8, s8, l8, by simp [runDef, okArgs, b_law_question, fxOf, outs, e1, e2, e3, e4, fdiv2, sizeLine, f1, f2, f3, f4, f5], k8⟩
      · exact ⟨j, m - 1, hi, p7, b7, n7, s7, l7, by simp [runDef, okArgs, b_law_question, fxOf, outs, e1, e2, e3, e4, fdiv2, sizeLine, f1, f2, f3, f4, cq], k7⟩
    · obtain ⟨w, p5, b5, n5, s5, l5, i, p6, b6, n6, s6, l6, j, q, p7, b7, n7, s7, l7, v, p8, b8, n8, s8, l8, f1, f2, f3, f4, f5, k7, k8⟩ := tail lo hi p3 b3 n3 s3 l3 h3
      by_cases cq : q = 0
      · subst cq
        exact ⟨v, lo, hi, p8, b8, n8, s8, l8, by simp [runDef, okArgs, b_law_question, fxOf, outs, e1, e2, e3, c1, c2, fdiv2, sizeLine, f1, f2, f3, f4, f5], k8⟩
      · exact ⟨j, lo, hi, p7, b7, n7, s7, l7, by simp [runDef, okArgs, b_law_question, fxOf, outs, e1, e2, e3, c1, c2, fdiv2, sizeLine, f1, f2, f3, f4, cq], k7⟩
/-! is_number -/
def inR (v lo hi : Int) : Bool := decide (lo ≤ v) && decide (v ≤ hi)
theorem is_number_ok (v lo hi : Int) : runDef (fxOf 3 []) 3 0 b_is_number [.int v, .int lo, .int hi] = .ok (.bl (inR v lo hi)) [some (.int v), some (.int lo), some (.int hi)] := by
  have := chain_i (g := [some (.int v), some (.int lo), some (.int hi)]) (a := M.opd (M.slot 1)) (b := M.opd (M.slot 0)) (c := M.opd (M.slot 2)) (i := lo) (j := v) (k := hi) (by simp) (by simp) (by simp)
  simp [runDef, okArgs, b_is_number, fxOf, outs, isi_ib, isi_ii, this, inR]
theorem is_number_bool (b : Bool) (lo hi : Int) : runDef (fxOf 3 []) 3 0 b_is_number [.bl b, .int lo, .int hi] = .ok (.bl false) [some (.bl b), some (.int lo), some (.int hi)] := by
  simp [runDef, okArgs, b_is_number, fxOf, outs, isi_bb]
def IsQ (d : D) : Prop := ∃ v lo hi, d = .obj false .tup [.int v, .int lo, .int hi]
def numB (cs ci : List D → CO) : S := (S.seq (S.ite (M.notB (M.toB (M.call cs (M.cons (M.opd (M.call ci (M.cons (M.opd (M.slot 1)) (M.cons (M.opd (M.slot 2)) (M.cons (M.opd (M.slot 3)) (M.pure [])))))) (M.cons (M.opd (M.andE (M.op2 vLe (M.opd (M.slot 2)) (M.opd (M.slot 1))) (M.op2 vLe (M.opd (M.slot 1)) (M.opd (M.slot 3))))) (M.pure [])))))) (S.seq (S.ret 1 (M.pure (.sh (.bl false)))) S.nop) S.nop)
      (S.seq (S.ite (M.orB (M.toB (M.op2 vEq (M.opd (M.slot 1)) (M.opd (M.pure (.sh (.int 0)))))) (M.toB (M.op2 vEq (M.opd (M.slot 1)) (M.opd (M.pure (.sh (.int 1))))))) (S.seq (S.ite (M.notB (M.toB (M.call cs (M.cons (M.opd (M.call ci (M.cons (M.opd (M.op2 vEq (M.opd (M.slot 1)) (M.opd (M.pure (.sh (.int 1)))))) (M.cons (M.opd (M.slot 2)) (M.cons (M.opd (M.slot 3)) (M.pure [])))))) (M.cons (M.opd (M.pure (.sh (.bl false)))) (M.pure [])))))) (S.seq (S.ret 1 (M.pure (.sh (.bl false)))) S.nop) S.nop)
      (S.seq (S.ite (M.notB (M.toB (M.call cs (M.cons (M.opd (M.call ci (M.cons (M.opd (M.slot 1)) (M.cons (M.opd (M.slot 2)) (M.cons (M.opd (M.slot 3)) (M.pure [])))))) (M.cons (M.opd (M.andE (M.op2 vLe (M.opd (M.slot 2)) (M.opd (M.slot 1))) (M.op2 vLe (M.opd (M.slot 1)) (M.opd (M.slot 3))))) (M.pure [])))))) (S.seq (S.ret 1 (M.pure (.sh (.bl false)))) S.nop) S.nop) S.nop)) S.nop) S.nop))
theorem numbers_ok {cs ci : List D → CO} (hs : SameB cs) (h1 : ∀ v lo hi : Int, ci [.int v, .int lo, .int hi] = .ok (.bl (inR v lo hi)) [some (.int v), some (.int lo), some (.int hi)]) (h2 : ∀ (b : Bool) (lo hi : Int), ci [.bl b, .int lo, .int hi] = .ok (.bl false) [some (.bl b), some (.int lo), some (.int hi)])
    (ds : List D) (hd : ∀ d ∈ ds, IsQ d) : runDef (fxOf 1 []) 1 3 (b_law_numbers_fine cs ci) [.obj false .lst ds] = .ok (.bl true) [some (.obj false .lst ds)] := by
  obtain ⟨g', e, a', b', c', rfl⟩ := forL_inv (f := Tgt.put (fxOf 1 []) (.tup [.slot 1, .slot 2, .slot 3])) (g0 := []) (ds := ds) (g := [some (.obj false .lst ds), none, none, none]) (I := fun g => ∃ a b c, g = [some (.obj false .lst ds), a, b, c]) (b := numB cs ci) ⟨_, _, _, rfl⟩ (fun d hm g ⟨a, b, c, eg⟩ => by
    subst eg
    obtain ⟨v, lo, hi, rfl⟩ := hd d hm
    refine ⟨[some (.obj false .lst ds), some (.int v), some (.int lo), some (.int hi)], by simp [Tgt.put, Tgt.puts, fxOf], .inl ⟨_, ?_, some (.int v), some (.int lo), some (.int hi), rfl⟩⟩
    have q1 := h1 v lo hi
    unfold inR at q1
    by_cases a3 : v = 0
    · subst a3
      by_cases a1 : lo ≤ 0 <;> by_cases a2 : 0 ≤ hi <;> simp [a1, a2] at q1 <;> simp [numB, q1, h2, hs true true, hs false false, a1, a2]
    · by_cases a4 : v = 1
      · subst a4
        by_cases a1 : lo ≤ 1 <;> by_cases a2 : 1 ≤ hi <;> simp [a1, a2] at q1 <;> simp [numB, q1, h2, hs true true, hs false false, a1, a2]
      · by_cases a1 : lo ≤ v <;> by_cases a2 : v ≤ hi <;> simp [a1, a2] at q1 <;> simp [numB, q1, h2, hs true true, hs false false, a1, a2, a3, a4])
  have e : S.forL (Tgt.put (fxOf 1 []) (.tup [.slot 1, .slot 2, .slot 3])) (S.seq (S.ite (M.notB (M.toB (M.call cs (M.cons (M.opd (M.call ci (M.cons (M.opd (M.slot 1)) (M.cons (M.opd (M.slot 2)) (M.cons (M.opd (M.slot 3)) (M.pure [])))))) (M.cons (M.opd (M.andE (M.op2 vLe (M.opd (M.slot 2)) (M.opd (M.slot 1))) (M.op2 vLe (M.opd (M.slot 1)) (M.opd (M.slot 3))))) (M.pure [])))))) (S.seq (S.ret 1 (M.pure (.sh (.bl false)))) S.nop) S.nop)
      (S.seq (S.ite (M.orB (M.toB (M.op2 vEq (M.opd (M.slot 1)) (M.opd (M.pure (.sh (.int 0)))))) (M.toB (M.op2 vEq (M.opd (M.slot 1)) (M.opd (M.pure (.sh (.int 1))))))) (S.seq (S.ite (M.notB (M.toB (M.call cs (M.cons (M.opd (M.call ci (M.cons (M.opd (M.op2 vEq (M.opd (M.slot 1)) (M.opd (M.pure (.sh (.int 1)))))) (M.cons (M.opd (M.slot 2)) (M.cons (M.opd (M.slot 3)) (M.pure [])))))) (M.cons (M.opd (M.pure (.sh (.bl false)))) (M.pure [])))))) (S.seq (S.ret 1 (M.pure (.sh (.bl false)))) S.nop) S.nop)
      (S.seq (S.ite (M.notB (M.toB (M.call cs (M.cons (M.opd (M.call ci (M.cons (M.opd (M.slot 1)) (M.cons (M.opd (M.slot 2)) (M.cons (M.opd (M.slot 3)) (M.pure [])))))) (M.cons (M.opd (M.andE (M.op2 vLe (M.opd (M.slot 2)) (M.opd (M.slot 1))) (M.op2 vLe (M.opd (M.slot 1)) (M.opd (M.slot 3))))) (M.pure [])))))) (S.seq (S.ret 1 (M.pure (.sh (.bl false)))) S.nop) S.nop) S.nop)) S.nop) S.nop)) ds [some (.obj false .lst ds), none, none, none] = .nx [some (.obj false .lst ds), a', b', c'] := e
  simp [runDef, okArgs, b_law_numbers_fine, fxOf, outs, e]
end VL.K00

set_option Elab.async false
set_option linter.all false
set_option maxRecDepth 100000
set_option maxHeartbeats 4000000
namespace VL
open PySem PySem.Spec L2 Dr
theorem add_ll (xs ys : List D) : vAdd (.obj false .lst xs) (.obj false .lst ys) = if xs.length + ys.length ≤ sizeLine then some (.ow (.obj true .lst (xs ++ ys))) else none := by
  unfold vAdd pt
  simp
end VL
namespace VL.K00
open PySem PySem.Spec L2 VL Dr
def TxOk (lo hi : Nat) (c : List D → CO) : Prop := ∀ xs p b n s l t, Ok p b → ∃ z p' b' n' s' l', c [st xs p b n s l t] = .ok (.str z) [some (st xs p' b' n' s' l' t)] ∧ Ok p' b' ∧ lo ≤ z.length ∧ z.length ≤ hi
def ws1 : List Str := ["wake", "sleep", "turn", "try", "rouse", "if", "while", "until", "each", "end", "awake", "asleep", "may"]
def ws2 : List Str := ["cannot", "least", "under", "folk", "watch", "need", "come", "go", "claim", "reach", "within"]
def ws3 : List Str := ["fits", "thin", "history", "nest", "nests", "table", "drop", "none", "z0", "z1", "a", "e"]
def wrow : List D := (ws1 ++ ws2 ++ ws3).map D.str
theorem ws_len : ∀ z ∈ ws1 ++ ws2 ++ ws3, 1 ≤ z.length ∧ z.length ≤ 8 := by decide +kernel
theorem wrow_str {d : D} (h : d ∈ wrow) : ∃ z, d = .str z ∧ 1 ≤ z.length ∧ z.length ≤ 8 := by
  obtain ⟨z, hz, rfl⟩ := List.mem_map.mp h
  exact ⟨z, rfl, ws_len z hz⟩
theorem one_len (c : Nat) : (Str.mk #[c]).length = 1 := rfl
theorem ldig_len : ldig.length = 36 := by decide +kernel
def nameL (ct : List D → CO) : S := S.seq (S.asg (fxOf 1 []) false 3 (M.op2 vAdd (M.opd (M.slot 3)) (M.opd (M.op2 vIx (M.opd (M.slot 2)) (M.opd (M.call ct (M.cons (M.opd (M.slot 0)) (M.cons (M.opd (M.pure (.sh (.int 36)))) (M.pure []))))))))) S.nop
theorem name_ok {ct cs cp : List D → CO} (ht : TakeOk ct) (hs : SomeOk cs) (hp : PickOk cp) : TxOk 1 8 (runDef (fxOf 1 []) 1 4 (b_law_name ct cs cp)) := fun xs p b n s l t h => by
  obtain ⟨r, p1, b1, n1, s1, l1, e1, h1, r0, r1⟩ := ht xs p b n s l t 6 h (by decide)
  by_cases c0 : r = 0
  · subst c0
    obtain ⟨d, p2, b2, n2, s2, l2, e2, h2, hd⟩ := hp.1 xs p1 b1 n1 s1 l1 t wrow h1 (by decide) (by decide) (fun d hd => by obtain ⟨z, rfl, _⟩ := wrow_str hd; rfl)
    obtain ⟨z, rfl, z1, z2⟩ := wrow_str hd
    simp only [wrow, ws1, ws2, ws3, List.cons_append, List.nil_append, List.map_cons, List.map_nil] at e2
    exact ⟨z, p2, b2, n2, s2, l2, by simp [runDef, okArgs, b_law_name, fxOf, outs, add_ll, sizeLine, e1, e2], h2, z1, z2⟩
  · obtain ⟨r2, p2, b2, n2, s2, l2, e2, h2, r20, r21⟩ := ht xs p1 b1 n1 s1 l1 t 26 h1 (by decide)
    have r22 := r21 (by decide)
    obtain ⟨c, _, ec⟩ := ix_si ldig r2 (by rw [ldig_len]; decide) r20 (by rw [ldig_len]; omega)
    have ec : vIx (.str "abcdefghijklmnopqrstuvwxyz0123456789") (.int r2) = some (.sh (.str ⟨#[c]⟩)) := ec
    obtain ⟨r3, p3, b3, n3, s3, l3, e3, h3, r30, r31⟩ := hs xs p2 b2 n2 s2 l2 t 1 8 h2 (by decide)
    have r32 := r31 (by decide)
    obtain ⟨g', e4, p4, b4, n4, s4, l4, z, nm, rfl, h4, hl⟩ := forL_ix (f := Tgt.put (fxOf 1 []) (.slot 4)) (b := nameL ct) (ds := (List.range (r3 - 1).toNat).map fun (k : Nat) => D.int (k : Int)) (k := 0) (g := [some (st xs p3 b3 n3 s3 l3 t), some (.obj false .lst wrow), some (.str ldig), some (.str ⟨#[c]⟩), none])
      (I := fun k g => ∃ p b n s l z nm, g = [some (st xs p b n s l t), some (.obj false .lst wrow), some (.str ldig), some (.str nm), z] ∧ Ok p b ∧ nm.length = k + 1) ⟨p3, b3, n3, s3, l3, none, _, rfl, h3, rfl⟩ (fun d hd j g hj1 hj2 ⟨p, b, n, s, l, z, nm, eg, hk, hl⟩ => by
        subst eg
        obtain ⟨k, _, rfl⟩ := List.mem_map.mp hd
        obtain ⟨q, p5, b5, n5, s5, l5, e5, h5, q0, q1⟩ := ht xs p b n s l t 36 hk (by decide)
        have q2 := q1 (by decide)
        obtain ⟨c2, _, ec2⟩ := ix_si ldig q (by rw [ldig_len]; decide) q0 (by rw [ldig_len]; omega)
        simp at hj2
        have add : vAdd (.str nm) (.str ⟨#[c2]⟩) = some (.sh (.str (nm ++ ⟨#[c2]⟩))) := add_ss _ _ (by rw [hl, one_len]; show _ ≤ 16777216; omega)
        refine ⟨[some (st xs p b n s l t), some (.obj false .lst wrow), some (.str ldig), some (.str nm), some (.int (k : Int))], by simp [Tgt.put, fxOf], .inl ⟨[some (st xs p5 b5 n5 s5 l5 t), some (.obj false .lst wrow), some (.str ldig), some (.str (nm ++ ⟨#[c2]⟩)), some (.int (k : Int))], ?_, p5, b5, n5, s5, l5, _, _, rfl, h5, by rw [len_app, hl, one_len]⟩⟩
        simp [nameL, fxOf, e5, ec2, add])
    simp at hl
    have e4 : S.forL (Tgt.put (fxOf 1 []) (.slot 4)) (S.seq (S.asg (fxOf 1 []) false 3 (M.op2 vAdd (M.opd (M.slot 3)) (M.opd (M.op2 vIx (M.opd (M.slot 2)) (M.opd (M.call ct (M.cons (M.opd (M.slot 0)) (M.cons (M.opd (M.pure (.sh (.int 36)))) (M.pure []))))))))) S.nop) ((List.range (r3 - 1).toNat).map fun (k : Nat) => D.int (k : Int)) [some (st xs p3 b3 n3 s3 l3 t), some (.obj false .lst wrow), some (.str "abcdefghijklmnopqrstuvwxyz0123456789"), some (.str ⟨#[c]⟩), none] = .nx _ := e4
    simp only [wrow, ws1, ws2, ws3, List.cons_append, List.nil_append, List.map_cons, List.map_nil] at e4
    rw [show (r3 - 1).toNat = r3.toNat - 1 by omega] at e4
    have rg : -4611686018427387904 ≤ r3 - 1 ∧ r3 - 1 < 4611686018427387904 := by omega
    exact ⟨nm, p4, b4, n4, s4, l4, by simp [runDef, okArgs, b_law_name, fxOf, outs, add_ll, sizeLine, e1, c0, e2, ec, e3, rg, e4], h4, by omega, by omega⟩
end VL.K00

set_option Elab.async false
set_option linter.all false
set_option maxRecDepth 100000
set_option maxHeartbeats 4000000
namespace VL.K00
open PySem PySem.Spec L2 VL Dr
def wrong : Str := " !\"#$&'()*+,-./:;<=>?@ABCDEFGHIJKLMNOPQRSTUVWXYZ[\\]^_`{|}~"
def wide : Str := " !\"#$&'()*+,-./0123456789:;<=>?@ABCDEFGHIJKLMNOPQRSTUVWXYZ[\\]^_`abcdefghijklmnopqrstuvwxyz{|}~\n"
theorem wrong_len : wrong.length = 58 := by decide +kernel
theorem wide_len : wide.length = 95 := by decide +kernel
theorem lenS (z : Str) (h : z.length ≤ 1000) : vLen [.str z] = some (.sh (.int z.length)) := len_str _ (by show _ ≤ 16777216; omega)
theorem addS (a b : Str) (h : a.length ≤ 2000) (h2 : b.length ≤ 2000) : vAdd (.str a) (.str b) = some (.sh (.str (a ++ b))) := add_ss _ _ (by show _ ≤ 16777216; omega)
theorem slS (lo hi : Option Int) (z : Str) (h : z.length ≤ 1000) : vSl lo hi (.str z) = some (.sh (.str (L2.cutS z lo hi))) := sl_s _ _ _ (by show _ ≤ 16777216; omega)
theorem bad_ok {ct cs cn : List D → CO} (ht : TakeOk ct) (hs : SomeOk cs) (hn : TxOk 1 8 cn) : TxOk 0 500 (runDef (fxOf 1 []) 1 5 (b_law_bad_name ct cs cn)) := fun xs p b n s l t h => by
  obtain ⟨z, p1, b1, n1, s1, l1, e1, h1, z1, z8⟩ := hn xs p b n s l t h
  obtain ⟨r, p2, b2, n2, s2, l2, e2, h2, r0, r1⟩ := ht xs p1 b1 n1 s1 l1 t 6 h1 (by decide)
  have cl : ∀ lo hi, (L2.cutS z lo hi).length ≤ 8 := fun lo hi => Nat.le_trans (len_cut _ _ _) z8
  have cut := fun lo hi => slS lo hi z (by omega)
  by_cases c0 : r = 0
  · subst c0
    exact ⟨"", p2, b2, n2, s2, l2, by simp [runDef, okArgs, b_law_bad_name, fxOf, outs, e1, e2], h2, Nat.zero_le _, by decide +kernel⟩
  by_cases c1 : r = 1
  · subst c1
    obtain ⟨q, p3, b3, n3, s3, l3, e3, h3, q0, q1⟩ := ht xs p2 b2 n2 s2 l2 t 10 h2 (by decide)
    have q2 := q1 (by decide)
    have tl : ("0123456789" : Str).length = 10 := by decide +kernel
    obtain ⟨c, _, ec⟩ := ix_si ("0123456789" : Str) q (by decide +kernel) q0 (by omega)
    have := cl none (some 7)
    exact ⟨⟨#[c]⟩ ++ L2.cutS z none (some 7), p3, b3, n3, s3, l3, by simp [runDef, okArgs, b_law_bad_name, fxOf, outs, e1, e2, e3, ec, cut, addS ⟨#[c]⟩ (L2.cutS z none (some 7)) (by rw [one_len]; omega) (by omega)], h3, Nat.zero_le _, by rw [len_app, one_len]; omega⟩
  by_cases c2 : r = 2
  · subst c2
    obtain ⟨q, p3, b3, n3, s3, l3, e3, h3, q0, q1⟩ := hs xs p2 b2 n2 s2 l2 t 0 51 h2 (by decide)
    have t60 : (60 : Int).toNat = 60 := rfl
    have z60 : z.length * (60 : Int).toNat ≤ 480 := by rw [t60]; omega
    have m := mul_si z 60 ⟨by decide, by decide, by show _ ≤ 16777216; omega⟩
    have ml := len_mul z 60 (by decide)
    have ml2 : (Txt.mul z 60).length ≤ 480 := Nat.le_trans ml z60
    have := len_cut (Txt.mul z 60) none (some (9 + q))
    exact ⟨L2.cutS (Txt.mul z 60) none (some (9 + q)), p3, b3, n3, s3, l3, by simp [runDef, okArgs, b_law_bad_name, fxOf, outs, e1, e2, e3, m, slS none (some (9 + q)) (Txt.mul z 60) (by omega)], h3, Nat.zero_le _, by omega⟩
  by_cases c3 : r = 3
  · subst c3
    have u1 := PyProof.Rows.len_upper (L2.cutS z none (some 1))
    have c1 := cl none (some 1)
    have c2 := cl (some 1) none
    have up := ev_up [some (st xs p2 b2 n2 s2 l2 t), some (.str wrong), some (.str z), some (.int 3), none, none] (M.opd (M.sl (M.opd (M.slot 2)) (M.pure none) (M.part (M.opd (M.pure (.sh (.int 1))))))) (L2.cutS z none (some 1)) [some (st xs p2 b2 n2 s2 l2 t), some (.str wrong), some (.str z), some (.int 3), none, none] (by simp [cut]) (by omega)
    have up : M.meth mUpper "str" (M.opd (M.sl (M.opd (M.slot 2)) (M.pure none) (M.part (M.opd (M.pure (.sh (.int 1))))))) (M.pure []) [some (st xs p2 b2 n2 s2 l2 t), some (.str " !\"#$&'()*+,-./:;<=>?@ABCDEFGHIJKLMNOPQRSTUVWXYZ[\\]^_`{|}~"), some (.str z), some (.int 3), none, none] = .ok (.sh (.str (Txt.upper (L2.cutS z none (some 1))))) [some (st xs p2 b2 n2 s2 l2 t), some (.str " !\"#$&'()*+,-./:;<=>?@ABCDEFGHIJKLMNOPQRSTUVWXYZ[\\]^_`{|}~"), some (.str z), some (.int 3), none, none] := up
    exact ⟨Txt.upper (L2.cutS z none (some 1)) ++ L2.cutS z (some 1) none, p2, b2, n2, s2, l2, by simp [runDef, okArgs, b_law_bad_name, fxOf, outs, e1, e2, up, cut, addS (Txt.upper (L2.cutS z none (some 1))) (L2.cutS z (some 1) none) (by omega) (by omega)], h2, Nat.zero_le _, by rw [len_app]; omega⟩
  obtain ⟨q, p3, b3, n3, s3, l3, e3, h3, q0, q1⟩ := ht xs p2 b2 n2 s2 l2 t z.length h2 (log_size (by show _ ≤ 16777216; omega))
  obtain ⟨y, p4, b4, n4, s4, l4, e4, h4, y0, y1⟩ := ht xs p3 b3 n3 s3 l3 t wrong.length h3 (by rw [wrong_len]; decide)
  have y2 := y1 (by rw [wrong_len]; decide)
  obtain ⟨c, _, ec⟩ := ix_si wrong y (by rw [wrong_len]; decide) y0 y2
  have wl : vLen [.str " !\"#$&'()*+,-./:;<=>?@ABCDEFGHIJKLMNOPQRSTUVWXYZ[\\]^_`{|}~"] = some (.sh (.int wrong.length)) := lenS wrong (by rw [wrong_len]; decide)
  have ec : vIx (.str " !\"#$&'()*+,-./:;<=>?@ABCDEFGHIJKLMNOPQRSTUVWXYZ[\\]^_`{|}~") (.int y) = some (.sh (.str ⟨#[c]⟩)) := ec
  have zl := lenS z (by omega)
  have k1 := cl none (some q)
  have k2 := cl none (some (q + 1))
  have k3 := cl (some (q + 1)) none
  have a1 := addS (L2.cutS z none (some q)) ⟨#[c]⟩ (by omega) (by rw [one_len]; omega)
  have a2 := addS (L2.cutS z none (some (q + 1))) ⟨#[c]⟩ (by omega) (by rw [one_len]; omega)
  have a3 := addS (L2.cutS z none (some q) ++ ⟨#[c]⟩) (L2.cutS z (some (q + 1)) none) (by rw [len_app, one_len]; omega) (by omega)
  have a4 := addS (L2.cutS z none (some (q + 1)) ++ ⟨#[c]⟩) (L2.cutS z (some (q + 1)) none) (by rw [len_app, one_len]; omega) (by omega)
  by_cases c4 : r = 4
  · subst c4
    exact ⟨L2.cutS z none (some q) ++ ⟨#[c]⟩ ++ L2.cutS z (some (q + 1)) none, p4, b4, n4, s4, l4, by simp [runDef, okArgs, b_law_bad_name, fxOf, outs, e1, e2, zl, e3, wl, e4, ec, cut, a1, a3], h4, Nat.zero_le _, by rw [len_app, len_app, one_len]; omega⟩
  · exact ⟨L2.cutS z none (some (q + 1)) ++ ⟨#[c]⟩ ++ L2.cutS z (some (q + 1)) none, p4, b4, n4, s4, l4, by simp [runDef, okArgs, b_law_bad_name, fxOf, outs, e1, e2, c0, c1, c2, c3, c4, zl, e3, wl, e4, ec, cut, a2, a4], h4, Nat.zero_le _, by rw [len_app, len_app, one_len]; omega⟩
def textL (ct cp : List D → CO) : S := S.seq (S.ite (M.andB (M.toB (M.op2 vNe (M.opd (M.slot 3)) (M.opd (M.pure (.sh (.int 5)))))) (M.toB (M.op2 vEq (M.opd (M.call ct (M.cons (M.opd (M.slot 0)) (M.cons (M.opd (M.pure (.sh (.int 4)))) (M.pure []))))) (M.opd (M.pure (.sh (.int 0))))))) (S.seq (S.asg (fxOf 1 []) false 7 (M.op2 vAdd (M.opd (M.slot 7)) (M.opd (M.call cp (M.cons (M.opd (M.slot 0)) (M.cons (M.opd (M.slot 1)) (M.pure []))))))) S.nop)
  (S.seq (S.asg (fxOf 1 []) false 7 (M.op2 vAdd (M.opd (M.slot 7)) (M.opd (M.call cp (M.cons (M.opd (M.slot 0)) (M.cons (M.opd (M.slot 2)) (M.pure []))))))) S.nop)) S.nop
theorem text_ok {ct cp cs cn cb : List D → CO} (ht : TakeOk ct) (hp : PickOk cp) (hs : SomeOk cs) (hn : TxOk 1 8 cn) (hb : TxOk 0 500 cb) : TxOk 0 500 (runDef (fxOf 1 []) 1 8 (b_law_text ct cp cs cn cb)) := fun xs p b n s l t h => by
  obtain ⟨r, p1, b1, n1, s1, l1, e1, h1, r0, r1⟩ := ht xs p b n s l t 8 h (by decide)
  by_cases c0 : r < 3
  · obtain ⟨z, p2, b2, n2, s2, l2, e2, h2, z1, z8⟩ := hn xs p1 b1 n1 s1 l1 t h1
    exact ⟨z, p2, b2, n2, s2, l2, by simp [runDef, okArgs, b_law_text, fxOf, outs, e1, c0, e2], h2, Nat.zero_le _, by omega⟩
  by_cases c3 : r = 3
  · subst c3
    obtain ⟨z, p2, b2, n2, s2, l2, e2, h2, z1, z8⟩ := hb xs p1 b1 n1 s1 l1 t h1
    exact ⟨z, p2, b2, n2, s2, l2, by simp [runDef, okArgs, b_law_text, fxOf, outs, e1, e2], h2, Nat.zero_le _, by omega⟩
  by_cases c4 : r = 4
  · subst c4
    obtain ⟨z, p2, b2, n2, s2, l2, e2, h2, z1, z8⟩ := hn xs p1 b1 n1 s1 l1 t h1
    obtain ⟨q, p3, b3, n3, s3, l3, e3, h3, q0, q1⟩ := hs xs p2 b2 n2 s2 l2 t 0 z.length h2 (by
      have : ((z.length : Int) - 0 + 1) = ((z.length + 1 : Nat) : Int) := by omega
      rw [this]
      exact log_size (by show _ ≤ 16777216; omega))
    have cl : ∀ lo hi, (L2.cutS z lo hi).length ≤ 8 := fun lo hi => Nat.le_trans (len_cut _ _ _) z8
    have cut := fun lo hi => slS lo hi z (by omega)
    have k1 := cl none (some q)
    have k2 := cl (some q) none
    have nl : ("\n" : Str).length = 1 := by decide +kernel
    have a1 := addS (L2.cutS z none (some q)) "\n" (by omega) (by omega)
    have a2 := addS (L2.cutS z none (some q) ++ "\n") (L2.cutS z (some q) none) (by rw [len_app]; omega) (by omega)
    exact ⟨L2.cutS z none (some q) ++ "\n" ++ L2.cutS z (some q) none, p3, b3, n3, s3, l3, by simp [runDef, okArgs, b_law_text, fxOf, outs, e1, e2, lenS z (by omega), e3, cut, a1, a2], h3, Nat.zero_le _, by rw [len_app, len_app]; omega⟩
  obtain ⟨q, p2, b2, n2, s2, l2, e2, h2, q0, q1⟩ := hs xs p1 b1 n1 s1 l1 t 0 10 h1 (by decide)
  have q2 := q1 (by decide)
  -- the loop, whatever the size
  have loop : ∀ (z : Int) p b n s l, Ok p b → 0 ≤ z → z ≤ 60 → ∃ nm v p' b' n' s' l', S.forL (Tgt.put (fxOf 1 []) (.slot 8)) (textL ct cp) ((List.range z.toNat).map fun (k : Nat) => D.int (k : Int)) [some (st xs p b n s l t), some (.str wide), some (.str ldig), some (.int r), none, none, some (.int z), some (.str ""), none] =
      .nx [some (st xs p' b' n' s' l' t), some (.str wide), some (.str ldig), some (.int r), none, none, some (.int z), some (.str nm), v] ∧ Ok p' b' ∧ nm.length ≤ 60 := fun z p b n s l h z0 z60 => by
    obtain ⟨g', e4, p4, b4, n4, s4, l4, v, nm, rfl, h4, hl⟩ := forL_ix (f := Tgt.put (fxOf 1 []) (.slot 8)) (b := textL ct cp) (ds := (List.range z.toNat).map fun (k : Nat) => D.int (k : Int)) (k := 0) (g := [some (st xs p b n s l t), some (.str wide), some (.str ldig), some (.int r), none, none, some (.int z), some (.str ""), none])
      (I := fun k g => ∃ p b n s l v nm, g = [some (st xs p b n s l t), some (.str wide), some (.str ldig), some (.int r), none, none, some (.int z), some (.str nm), v] ∧ Ok p b ∧ nm.length = k) ⟨p, b, n, s, l, none, _, rfl, h, by decide +kernel⟩ (fun d hd j g hj1 hj2 ⟨p, b, n, s, l, v, nm, eg, hk, hl⟩ => by
        subst eg
        obtain ⟨k, _, rfl⟩ := List.mem_map.mp hd
        simp at hj2
        obtain ⟨q, p5, b5, n5, s5, l5, e5, h5, q0, q1⟩ := ht xs p b n s l t 4 hk (by decide)
        refine ⟨[some (st xs p b n s l t), some (.str wide), some (.str ldig), some (.int r), none, none, some (.int z), some (.str nm), some (.int (k : Int))], by simp [Tgt.put, fxOf], ?_⟩
        by_cases c5 : r = 5
        · obtain ⟨c, p6, b6, n6, s6, l6, e6, h6, _⟩ := hp.2 xs p b n s l t ldig hk (by rw [ldig_len]; decide) (by rw [ldig_len]; decide)
          have add := addS nm ⟨#[c]⟩ (by omega) (by rw [one_len]; omega)
          refine .inl ⟨[some (st xs p6 b6 n6 s6 l6 t), some (.str wide), some (.str ldig), some (.int r), none, none, some (.int z), some (.str (nm ++ ⟨#[c]⟩)), some (.int (k : Int))], ?_, p6, b6, n6, s6, l6, _, _, rfl, h6, by rw [len_app, one_len, hl]⟩
          simp [textL, fxOf, c5, e6, add]
        · by_cases cq : q = 0
          · subst cq
            obtain ⟨c, p6, b6, n6, s6, l6, e6, h6, _⟩ := hp.2 xs p5 b5 n5 s5 l5 t wide h5 (by rw [wide_len]; decide) (by rw [wide_len]; decide)
            have add := addS nm ⟨#[c]⟩ (by omega) (by rw [one_len]; omega)
            refine .inl ⟨[some (st xs p6 b6 n6 s6 l6 t), some (.str wide), some (.str ldig), some (.int r), none, none, some (.int z), some (.str (nm ++ ⟨#[c]⟩)), some (.int (k : Int))], ?_, p6, b6, n6, s6, l6, _, _, rfl, h6, by rw [len_app, one_len, hl]⟩
            simp [textL, fxOf, c5, e5, e6, add]
          · obtain ⟨c, p6, b6, n6, s6, l6, e6, h6, _⟩ := hp.2 xs p5 b5 n5 s5 l5 t ldig h5 (by rw [ldig_len]; decide) (by rw [ldig_len]; decide)
            have add := addS nm ⟨#[c]⟩ (by omega) (by rw [one_len]; omega)
            refine .inl ⟨[some (st xs p6 b6 n6 s6 l6 t), some (.str wide), some (.str ldig), some (.int r), none, none, some (.int z), some (.str (nm ++ ⟨#[c]⟩)), some (.int (k : Int))], ?_, p6, b6, n6, s6, l6, _, _, rfl, h6, by rw [len_app, one_len, hl]⟩
            simp [textL, fxOf, c5, e5, cq, e6, add])
    simp at hl
    exact ⟨nm, v, p4, b4, n4, s4, l4, e4, h4, by omega⟩
  have loop := fun z p b n s l h z0 z60 => show ∃ nm v p' b' n' s' l', S.forL (Tgt.put (fxOf 1 []) (.slot 8)) (S.seq (S.ite (M.andB (M.toB (M.op2 vNe (M.opd (M.slot 3)) (M.opd (M.pure (.sh (.int 5)))))) (M.toB (M.op2 vEq (M.opd (M.call ct (M.cons (M.opd (M.slot 0)) (M.cons (M.opd (M.pure (.sh (.int 4)))) (M.pure []))))) (M.opd (M.pure (.sh (.int 0))))))) (S.seq (S.asg (fxOf 1 []) false 7 (M.op2 vAdd (M.opd (M.slot 7)) (M.opd (M.call cp (M.cons (M.opd (M.slot 0)) (M.cons (M.opd (M.slot 1)) (M.pure []))))))) S.nop)
      (S.seq (S.asg (fxOf 1 []) false 7 (M.op2 vAdd (M.opd (M.slot 7)) (M.opd (M.call cp (M.cons (M.opd (M.slot 0)) (M.cons (M.opd (M.slot 2)) (M.pure []))))))) S.nop)) S.nop) ((List.range z.toNat).map fun (k : Nat) => D.int (k : Int)) [some (st xs p b n s l t), some (.str " !\"#$&'()*+,-./0123456789:;<=>?@ABCDEFGHIJKLMNOPQRSTUVWXYZ[\\]^_`abcdefghijklmnopqrstuvwxyz{|}~\n"), some (.str "abcdefghijklmnopqrstuvwxyz0123456789"), some (.int r), none, none, some (.int z), some (.str ""), none] =
      .nx [some (st xs p' b' n' s' l' t), some (.str wide), some (.str ldig), some (.int r), none, none, some (.int z), some (.str nm), v] ∧ Ok p' b' ∧ nm.length ≤ 60 from loop z p b n s l h z0 z60
  by_cases c5 : r = 5
  · subst c5
    obtain ⟨m, p3, b3, n3, s3, l3, e3, h3, m0, m1⟩ := ht xs p2 b2 n2 s2 l2 t 5 h2 (by decide)
    have m2 := m1 (by decide)
    obtain ⟨nm, v, p4, b4, n4, s4, l4, e4, h4, hl⟩ := loop (6 + m) p3 b3 n3 s3 l3 h3 (by omega) (by omega)
    have rg : -4611686018427387904 ≤ 6 + m ∧ 6 + m < 4611686018427387904 := by omega
    exact ⟨nm, p4, b4, n4, s4, l4, by simp [runDef, okArgs, b_law_text, fxOf, outs, e1, e2, e3, rg, e4], h4, Nat.zero_le _, by omega⟩
  by_cases c6 : r = 6
  · subst c6
    obtain ⟨m, p3, b3, n3, s3, l3, e3, h3, m0, m1⟩ := hs xs p2 b2 n2 s2 l2 t 0 60 h2 (by decide)
    have m2 := m1 (by decide)
    obtain ⟨nm, v, p4, b4, n4, s4, l4, e4, h4, hl⟩ := loop m p3 b3 n3 s3 l3 h3 m0 m2
    have rg : -4611686018427387904 ≤ m ∧ m < 4611686018427387904 := by omega
    exact ⟨nm, p4, b4, n4, s4, l4, by simp [runDef, okArgs, b_law_text, fxOf, outs, e1, e2, e3, rg, e4], h4, Nat.zero_le _, by omega⟩
  · obtain ⟨nm, v, p4, b4, n4, s4, l4, e4, h4, hl⟩ := loop q p2 b2 n2 s2 l2 h2 q0 (by omega)
    have rg : -4611686018427387904 ≤ q ∧ q < 4611686018427387904 := by omega
    exact ⟨nm, p4, b4, n4, s4, l4, by simp [runDef, okArgs, b_law_text, fxOf, outs, e1, c0, c3, c4, c5, c6, e2, rg, e4], h4, Nat.zero_le _, by omega⟩
end VL.K00

set_option Elab.async false
set_option linter.all false
set_option maxRecDepth 100000
set_option maxHeartbeats 4000000
namespace VL.K00
open PySem PySem.Spec L2 VL Dr
def IsT (d : D) : Prop := ∃ z, d = .str z ∧ z.length ≤ 1000
theorem fz_T {ds : List D} (h : ∀ d ∈ ds, IsT d) : fzs ds = ds := fzs_strs fun d hd => by obtain ⟨z, e, _⟩ := h d hd; exact ⟨z, e⟩
theorem fz_Q : ∀ {ds : List D}, (∀ d ∈ ds, IsQ d) → fzs ds = ds
  | [], _ => by simp
  | d :: ds, h => by
    obtain ⟨v, lo, hi, rfl⟩ := h d (List.mem_cons_self ..)
    rw [fzs_cons, fz_Q fun d hd => h d (List.mem_cons_of_mem _ hd)]
    simp
theorem all_own {ds : List D} (h : ∀ d ∈ ds, IsT d) : (ds.all fun d => !d.own) = true := List.all_eq_true.mpr fun d hd => by
  obtain ⟨z, rfl, _⟩ := h d hd
  rfl
def NearOk (c : List D → CO) : Prop := ∀ z : Str, z.length ≤ 8 → ∃ ys : List D, c [.str z] = .ok (.obj true .lst ys) [some (.str z)] ∧ ys.length = 10 ∧ ∀ d ∈ ys, IsT d
theorem near_ok : NearOk (runDef (fxOf 1 []) 1 1 b_law_near) := fun z h => by
  have cl : ∀ lo hi, (L2.cutS z lo hi).length ≤ 8 := fun lo hi => Nat.le_trans (len_cut _ _ _) h
  have cut := fun lo hi => slS lo hi z (by omega)
  have u1 := PyProof.Rows.len_upper (L2.cutS z none (some 1))
  have c1 := cl none (some 1)
  have c2 := cl (some 1) none
  have c7 := cl none (some 7)
  have up := ev_up [some (.str z), none] (M.opd (M.sl (M.opd (M.slot 0)) (M.pure none) (M.part (M.opd (M.pure (.sh (.int 1))))))) (L2.cutS z none (some 1)) [some (.str z), none] (by simp [cut]) (by omega)
  have nl : ("\n" : Str).length = 1 := by decide +kernel
  have sp : (" " : Str).length = 1 := by decide +kernel
  have sv : ("7" : Str).length = 1 := by decide +kernel
  have tl : ("a0zb1yc2" : Str).length = 8 := by decide +kernel
  have a1 := addS z "\n" (by omega) (by omega)
  have a2 := addS "\n" z (by omega) (by omega)
  have a3 := addS z " " (by omega) (by omega)
  have a4 := addS " " z (by omega) (by omega)
  have a5 := addS (Txt.upper (L2.cutS z none (some 1))) (L2.cutS z (some 1) none) (by omega) (by omega)
  have a6 := addS "7" (L2.cutS z none (some 7)) (by omega) (by omega)
  have a7 := addS z "a0zb1yc2" (by omega) (by omega)
  have a8 := addS z z (by omega) (by omega)
  have zl : (z ++ ("a0zb1yc2" : Str)).length ≤ 16 := by rw [len_app]; omega
  have cut2 := fun lo hi => slS lo hi (z ++ ("a0zb1yc2" : Str)) (by omega)
  have c8 := len_cut (z ++ ("a0zb1yc2" : Str)) none (some 8)
  have c9 := len_cut (z ++ ("a0zb1yc2" : Str)) none (some 9)
  refine ⟨[.str (z ++ "\n"), .str ("\n" ++ z), .str (z ++ " "), .str (" " ++ z), .str (Txt.upper (L2.cutS z none (some 1)) ++ L2.cutS z (some 1) none), .str ("7" ++ L2.cutS z none (some 7)), .str (L2.cutS (z ++ "a0zb1yc2") none (some 8)), .str (L2.cutS (z ++ "a0zb1yc2") none (some 9)), .str (L2.cutS z none (some 1)), .str (z ++ z)], ?_, rfl, fun d hd => ?_⟩
  · simp [runDef, okArgs, b_law_near, fxOf, outs, a1, a2, a3, a4, up, cut, a5, a6, a7, a8, cut2, add_ll, sizeLine]
  · simp only [List.mem_cons, List.not_mem_nil, or_false] at hd
    rcases hd with rfl | rfl | rfl | rfl | rfl | rfl | rfl | rfl | rfl | rfl <;> refine ⟨_, rfl, ?_⟩ <;> first | omega | (rw [len_app]; omega)
theorem texts_ok {cs cf ci : List D → CO} (hs : SameB cs) (h1 : ∀ z : Str, z.length ≤ sizeLine → cf [.str z] = .ok (.bl (isN z)) [some (.str z)]) (h2 : ∀ z : Str, z.length ≤ sizeLine → ci [.str z] = .ok (.bl (isN z)) [some (.str z)])
    (o : Bool) (ds : List D) (hd : ∀ d ∈ ds, IsT d) : runDef (fxOf 1 []) 1 1 (b_law_texts_fine cs cf ci) [.obj o .lst ds] = .ok (.bl true) [some (.obj false .lst ds)] := by
  obtain ⟨g', e, a', rfl⟩ := forL_inv (f := Tgt.put (fxOf 1 []) (.slot 1)) (g0 := []) (ds := ds) (g := [some (.obj false .lst ds), none]) (I := fun g => ∃ a, g = [some (.obj false .lst ds), a]) (b := S.seq (S.ite (M.notB (M.toB (M.call cs (M.cons (M.opd (M.call ci (M.cons (M.opd (M.slot 1)) (M.pure [])))) (M.cons (M.opd (M.call cf (M.cons (M.opd (M.slot 1)) (M.pure [])))) (M.pure [])))))) (S.seq (S.ret 1 (M.pure (.sh (.bl false)))) S.nop) S.nop) S.nop) ⟨_, rfl⟩ (fun d hm g ⟨a, eg⟩ => by
    subst eg
    obtain ⟨z, rfl, hz⟩ := hd d hm
    have hl : z.length ≤ sizeLine := by show _ ≤ 16777216; omega
    refine ⟨[some (.obj false .lst ds), some (.str z)], by simp [Tgt.put, fxOf], .inl ⟨_, ?_, some (.str z), rfl⟩⟩
    simp [h1 z hl, h2 z hl, hs (isN z) (isN z)])
  cases o with
  | false => simp [runDef, okArgs, b_law_texts_fine, fxOf, outs, e]
  | true => simp [runDef, okArgs, b_law_texts_fine, fxOf, outs, fz_T hd, e]
theorem consts_all : d_law_constants_fine.cf (glAt dts gcs 39) [] = .ok (.bl true) [] := by kernel_rfl
theorem lmt_app (g : G) (i j : Nat) (xs : List D) (d : D) (hi : g[i]? = some (some (.obj true .lst xs))) (hj : g[j]? = some (some d)) (ho : d.own = false) (hl : xs.length < sizeLine) :
    M.lmt i lAppend (M.cons (M.opd (M.slot j)) (M.pure [])) g = .ok (.sh .non) (g.set i (some (.obj true .lst (xs ++ [d])))) := by
  have e0 : M.slot i g = .ok (.pl i) g := by simp [hi]
  have e1 : M.cons (M.opd (M.slot j)) (M.pure []) g = .ok [.sh d] g := by simp [hj, ho]
  have e2 : M.stores [.sh d] g = .ok [d] g := by simp
  unfold M.lmt
  rw [bind_ok e0, hi]
  dsimp only
  rw [bind_ok e1, bind_ok e2, hi]
  simp [lAppend, hl]
theorem add_own (ts ys : List D) (h : (ts.all fun d => !d.own) = true) (hl : ts.length + ys.length ≤ sizeLine) : vAdd (.obj true .lst ts) (.obj false .lst ys) = some (.ow (.obj true .lst (ts ++ ys))) := if_pos ⟨by unfold pt; rw [h, Bool.or_true], rfl, hl⟩
def lawL (cf cn : List D → CO) : S := S.seq (S.drop (M.lmt 4 lAppend (M.cons (M.opd (M.slot 5)) (M.pure [])))) (S.seq (S.ite (M.toB (M.call cf (M.cons (M.opd (M.slot 5)) (M.pure [])))) (S.seq (S.asg (fxOf 1 []) true 4 (M.op2 vAdd (M.opd (M.slot 4)) (M.opd (M.call cn (M.cons (M.opd (M.slot 5)) (M.pure [])))))) S.nop) S.nop) S.nop)
theorem law_ok {cm cx cc cq cf cn ct cs : List D → CO} (hm : ∀ ds : List D, (∀ d ∈ ds, IsQ d) → cm [.obj false .lst ds] = .ok (.bl true) [some (.obj false .lst ds)])
    (hx : ∀ (o : Bool) (ds : List D), (∀ d ∈ ds, IsT d) → cx [.obj o .lst ds] = .ok (.bl true) [some (.obj false .lst ds)]) (hc : cc [] = .ok (.bl true) []) (hq : QOk cq)
    (hf : ∀ z : Str, z.length ≤ sizeLine → cf [.str z] = .ok (.bl (isN z)) [some (.str z)]) (hn : NearOk cn) (ht : TxOk 0 500 ct) (hs : StoreOk cs) (ns : List Int) :
    runDef (fxOf 1 []) 1 6 (b_law cm cx cc cq cf cn ct cs) [scr ns] = .ok (.bl true) [some (scr ns)] := by
  obtain ⟨t, e0⟩ := hs ns
  obtain ⟨acc, g1, e1, ⟨p1, b1, n1, s1, l1, o1, rfl, h1⟩, hacc, lacc⟩ := lcL_inv (f := Tgt.put (fxOf 0 []) (.slot 3)) (me := M.call ct (M.cons (M.opd (M.slot 1)) (M.pure []))) (vs := [3]) (I := fun g => ∃ p b n s l o, g = [some (scr ns), some (st ns p b n s l t), none, o, none, none, none] ∧ Ok p b) (P := IsT)
    (ds := (List.range 6).map fun (k : Nat) => D.int (k : Int)) (acc := []) (g := [some (scr ns), some (st ns 0 0 0 0 0 t), none, none, none, none, none]) ⟨0, 0, 0, 0, 0, none, rfl, Int.le_refl _, Int.le_refl _⟩ (by simp) (by simp [sizeLine]) (fun d hd g ⟨p, b, n, s, l, o, eg, hk⟩ => by
      subst eg
      obtain ⟨k, _, rfl⟩ := List.mem_map.mp hd
      obtain ⟨z, p2, b2, n2, s2, l2, e2, h2, _, hz⟩ := ht ns p b n s l t hk
      refine ⟨[some (scr ns), some (st ns p b n s l t), none, some (.int (k : Int)), none, none, none], .str z, [some (scr ns), some (st ns p2 b2 n2 s2 l2 t), none, some (.int (k : Int)), none, none, none], by simp [Tgt.put, fxOf], ?_, ⟨p2, b2, n2, s2, l2, _, rfl, h2⟩, z, rfl, by omega⟩
      rw [bind_ok (show M.call ct (M.cons (M.opd (M.slot 1)) (M.pure [])) [some (scr ns), some (st ns p b n s l t), none, some (.int (k : Int)), none, none, none] = .ok (.sh (.str z)) [some (scr ns), some (st ns p2 b2 n2 s2 l2 t), none, some (.int (k : Int)), none, none, none] by simp [e2])]
      rfl)
  obtain ⟨g2, e2, ts, o2, rfl, hts, lts⟩ := forL_ix (f := Tgt.put (fxOf 1 []) (.slot 5)) (b := lawL cf cn) (ds := acc) (k := 0) (g := [some (scr ns), some (st ns p1 b1 n1 s1 l1 t), some (.obj false .lst acc), none, some (.obj true .lst []), none, none])
    (I := fun k g => ∃ ts o, g = [some (scr ns), some (st ns p1 b1 n1 s1 l1 t), some (.obj false .lst acc), none, some (.obj true .lst ts), o, none] ∧ (∀ d ∈ ts, IsT d) ∧ ts.length ≤ 11 * k) ⟨[], none, rfl, by simp, by simp⟩ (fun d hd j g hj1 hj2 ⟨ts, o, eg, hts, lts⟩ => by
      subst eg
      obtain ⟨z, rfl, hz⟩ := hacc d hd
      simp at lacc
      have hl : z.length ≤ sizeLine := by show _ ≤ 16777216; omega
      have lsz : ts.length < sizeLine := by show _ < 16777216; omega
      have ap := lmt_app [some (scr ns), some (st ns p1 b1 n1 s1 l1 t), some (.obj false .lst acc), none, some (.obj true .lst ts), some (.str z), none] 4 5 ts (.str z) rfl rfl rfl lsz
      have hts2 : ∀ d ∈ ts ++ [.str z], IsT d := fun d hd => (List.mem_append.mp hd).elim (hts d) fun hd => ⟨z, List.mem_singleton.mp hd, hz⟩
      refine ⟨[some (scr ns), some (st ns p1 b1 n1 s1 l1 t), some (.obj false .lst acc), none, some (.obj true .lst ts), some (.str z), none], by simp [Tgt.put, fxOf], ?_⟩
      cases hi : isN z with
      | false =>
        refine .inl ⟨[some (scr ns), some (st ns p1 b1 n1 s1 l1 t), some (.obj false .lst acc), none, some (.obj true .lst (ts ++ [.str z])), some (.str z), none], ?_, _, _, rfl, hts2, by simp; omega⟩
        simp [lawL, ap, hf z hl, hi]
      | true =>
        have z8 : z.length ≤ 8 := by
          unfold isN at hi
          simp only [Bool.and_eq_true, decide_eq_true_eq] at hi
          exact hi.1.1.2
        obtain ⟨ys, ey, ly, hy⟩ := hn z z8
        have ad := add_own (ts ++ [.str z]) ys (all_own hts2) (by simp; show _ ≤ 16777216; omega)
        refine .inl ⟨[some (scr ns), some (st ns p1 b1 n1 s1 l1 t), some (.obj false .lst acc), none, some (.obj true .lst (ts ++ [.str z] ++ ys)), some (.str z), none], ?_, _, _, rfl, fun d hd => (List.mem_append.mp hd).elim (hts2 d) (hy d), by simp; omega⟩
        simp at ad
        simp [lawL, ap, hf z hl, hi, ey, fz_T hy, ad, fxOf])
  obtain ⟨qs, g3, e3, ⟨p3, b3, n3, s3, l3, o3, rfl, h3⟩, hqs, lqs⟩ := lcL_inv (f := Tgt.put (fxOf 0 []) (.slot 3)) (me := M.call cq (M.cons (M.opd (M.slot 1)) (M.pure []))) (vs := [3]) (I := fun g => ∃ p b n s l o, g = [some (scr ns), some (st ns p b n s l t), some (.obj false .lst acc), o, some (.obj true .lst ts), o2, none] ∧ Ok p b) (P := IsQ)
    (ds := (List.range 6).map fun (k : Nat) => D.int (k : Int)) (acc := []) (g := [some (scr ns), some (st ns p1 b1 n1 s1 l1 t), some (.obj false .lst acc), none, some (.obj true .lst ts), o2, none]) ⟨p1, b1, n1, s1, l1, none, rfl, h1⟩ (by simp) (by simp [sizeLine]) (fun d hd g ⟨p, b, n, s, l, o, eg, hk⟩ => by
      subst eg
      obtain ⟨k, _, rfl⟩ := List.mem_map.mp hd
      obtain ⟨v, lo, hi, p2, b2, n2, s2, l2, e2, h2⟩ := hq ns p b n s l t hk
      refine ⟨[some (scr ns), some (st ns p b n s l t), some (.obj false .lst acc), some (.int (k : Int)), some (.obj true .lst ts), o2, none], .obj false .tup [.int v, .int lo, .int hi], [some (scr ns), some (st ns p2 b2 n2 s2 l2 t), some (.obj false .lst acc), some (.int (k : Int)), some (.obj true .lst ts), o2, none], by simp [Tgt.put, fxOf], ?_, ⟨p2, b2, n2, s2, l2, _, rfl, h2⟩, v, lo, hi, rfl⟩
      rw [bind_ok (show M.call cq (M.cons (M.opd (M.slot 1)) (M.pure [])) [some (scr ns), some (st ns p b n s l t), some (.obj false .lst acc), some (.int (k : Int)), some (.obj true .lst ts), o2, none] = .ok (.sh (.obj false .tup [.int v, .int lo, .int hi])) [some (scr ns), some (st ns p2 b2 n2 s2 l2 t), some (.obj false .lst acc), some (.int (k : Int)), some (.obj true .lst ts), o2, none] by simp [e2])]
      rfl)
  unfold lawL at e2
  have rv1 : ∀ xs : List D, vRev (.obj false .lst xs) = some (.ow (.obj true .lst xs.reverse)) := fun xs => rfl
  have hrt : ∀ d ∈ ts.reverse, IsT d := fun d hd => hts d (List.mem_reverse.mp hd)
  have hrq : ∀ d ∈ qs.reverse, IsQ d := fun d hd => hqs d (List.mem_reverse.mp hd)
  simp [scr] at e0 e1 e2 e3
  simp [runDef, okArgs, b_law, fxOf, outs, scr, e0, noOwn, e1, fz_T hacc, e2, e3, fz_Q hqs, hc, hx true ts hts, hm qs hqs, rv1, fz_T hrt, fz_Q hrq, hx false _ hrt, hm _ hrq, sizeLine]
end VL.K00

set_option Elab.async false
set_option linter.all false
set_option maxRecDepth 100000
set_option maxHeartbeats 4000000
namespace VL.K00
open PySem PySem.Spec L2 VL Dr
theorem at_raw (k : Nat) : RawOk (d_law_raw.cf (glAt dts gcs (k + 1))) := by rw [e_law_raw]; exact raw_ok
theorem at_next (k : Nat) : NextOk (d_law_next.cf (glAt dts gcs (k + 1))) := by rw [e_law_next]; exact next_ok
theorem at_store (k : Nat) : StoreOk (d_law_store.cf (glAt dts gcs (k + 1))) := by rw [e_law_store]; exact Dr.store_ok
theorem at_take (k : Nat) : TakeOk (d_law_take.cf (glAt dts gcs (k + 2))) := by rw [e_law_take]; exact take_ok (at_raw k) (at_next k)
theorem at_some (k : Nat) : SomeOk (d_law_some.cf (glAt dts gcs (k + 3))) := by rw [e_law_some]; exact some_ok (at_take k)
theorem at_pick (k : Nat) : PickOk (d_law_pick.cf (glAt dts gcs (k + 3))) := by rw [e_law_pick]; exact pick_ok (at_take k)
theorem at_name (k : Nat) : TxOk 1 8 (d_law_name.cf (glAt dts gcs (k + 4))) := by rw [e_law_name]; exact name_ok (at_take (k + 1)) (at_some k) (at_pick k)
theorem at_bad (k : Nat) : TxOk 0 500 (d_law_bad_name.cf (glAt dts gcs (k + 5))) := by rw [e_law_bad_name]; exact bad_ok (at_take (k + 2)) (at_some (k + 1)) (at_name k)
theorem at_text (k : Nat) : TxOk 0 500 (d_law_text.cf (glAt dts gcs (k + 6))) := by rw [e_law_text]; exact text_ok (at_take (k + 3)) (at_pick (k + 2)) (at_some (k + 2)) (at_name (k + 1)) (at_bad k)
theorem at_number (k : Nat) : NumOk (d_law_number.cf (glAt dts gcs (k + 3))) := by rw [e_law_number]; exact number_ok (at_take k)
theorem at_cut (k : Nat) : CutOk (d_law_cut.cf (glAt dts gcs (k + 1))) := by rw [e_law_cut]; exact cut_ok
theorem at_question (k : Nat) : QOk (d_law_question.cf (glAt dts gcs (k + 4))) := by rw [e_law_question]; exact question_ok (at_take (k + 1)) (at_cut (k + 2)) (at_pick k) (at_number k)
theorem at_same (k : Nat) : SameB (d_law_same.cf (glAt dts gcs (k + 1))) := by rw [e_law_same]; exact same_ok _
theorem at_near (k : Nat) : NearOk (d_law_near.cf (glAt dts gcs (k + 1))) := by rw [e_law_near]; exact near_ok
theorem at_form (k : Nat) (z : Str) (h : z.length ≤ sizeLine) : d_law_form.cf (glAt dts gcs (k + 1)) [.str z] = .ok (.bl (isN z)) [some (.str z)] := by rw [e_law_form]; exact form_ok z h
theorem at_isname (k : Nat) (z : Str) (h : z.length ≤ sizeLine) : d_is_name.cf (glAt dts gcs (k + 1)) [.str z] = .ok (.bl (isN z)) [some (.str z)] := by rw [e_is_name]; exact is_name_ok z h
theorem at_isnum (k : Nat) (v lo hi : Int) : d_is_number.cf (glAt dts gcs (k + 1)) [.int v, .int lo, .int hi] = .ok (.bl (inR v lo hi)) [some (.int v), some (.int lo), some (.int hi)] := by rw [e_is_number]; exact is_number_ok v lo hi
theorem at_isnumB (k : Nat) (b : Bool) (lo hi : Int) : d_is_number.cf (glAt dts gcs (k + 1)) [.bl b, .int lo, .int hi] = .ok (.bl false) [some (.bl b), some (.int lo), some (.int hi)] := by rw [e_is_number]; exact is_number_bool b lo hi
theorem at_numbers (k : Nat) (ds : List D) (h : ∀ d ∈ ds, IsQ d) : d_law_numbers_fine.cf (glAt dts gcs (k + 2)) [.obj false .lst ds] = .ok (.bl true) [some (.obj false .lst ds)] := by rw [e_law_numbers_fine]; exact numbers_ok (at_same k) (at_isnum k) (at_isnumB k) ds h
theorem at_texts (k : Nat) (o : Bool) (ds : List D) (h : ∀ d ∈ ds, IsT d) : d_law_texts_fine.cf (glAt dts gcs (k + 2)) [.obj o .lst ds] = .ok (.bl true) [some (.obj false .lst ds)] := by rw [e_law_texts_fine]; exact texts_ok (at_same k) (at_form k) (at_isname k) o ds h
theorem val_law (ns : List Int) (_ : ns.length ≤ 63) : ∃ ps, d_law.cf (glAt dts gcs 40) [scr ns] = .ok (.bl true) ps :=
  ⟨[some (scr ns)], by rw [e_law 39]; exact law_ok (at_numbers 37) (at_texts 37) consts_all (at_question 35) (at_form 38) (at_near 38) (at_text 33) (at_store 38) ns⟩
end VL.K00

open PySem PySem.W PySem.Calls PyProof.Rows
set_option maxHeartbeats 0
theorem PySem.Challenge.cw_drowsefolk_k00_names_and_numbers_holds : PySem.Challenge.rw_drowsefolk_k00_names_and_numbers.Holds := by
  w_on; o_law
  refine HandSHeadRun.head_any (r := VL.K00.oRow) (q := view VL.K00.oRow.prog [45]) (H := VL.K00.hkL) (ob := VL.K00.obL) (M := 4000) (loose := VL.K00.looseL) (d := HandSHeadRun.topDef VL.K00.oRow.prog 45) (kwd := []) VL.K00.obL_eq
    (by kernel_rfl) (fun s => by kernel_rfl) VL.K00.runL (by kernel_rfl) (by kernel_rfl) (by kernel_rfl) (by rfl) (by first | assumption | decide +kernel) (by decide +kernel) ⟨rfl, rfl, rfl, rfl, rfl, by decide +kernel⟩ ?hw ?hc
  case hw => w_witness2
  case hc => exact VL.walkV (l := PySem.Challenge.rw_drowsefolk_k00_names_and_numbers) (d := VL.K00.d_law) (x := "_law_script") 40 rfl (by kernel_rfl) (by decide) (by kernel_rfl) VL.K00.law_in (by kernel_rfl) rfl VL.K00.allOk (fun w h y => y) VL.K00.val_law
